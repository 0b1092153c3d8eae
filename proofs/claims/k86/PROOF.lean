import PyProof.Rows.All
import HandS.ForMost
import HandS.TupAny
import HandS.Exc
import HandS.TryMany
import HandS.WordsExc
import HandS.Wide
import HandS.Gcd
import HandS.IsInst
import HandS.Defaults
import HandS.ExcSuper
import HandS.Strs
import HandS.StrMore
import HandS.ExcCtx
import HandS.CallSlots
import HandS.WideMore
import HandS.Rev
import HandS.Codes
import HandS.HeadWalk
import HandS.Flow
import HandS.Iter
import HandS.Comp
import HandS.Conv
import HandS.List
import HandS.HeadHook2
import HandS.HeadEnd
import HandS.HeadHook4
import HandS.EndBits
import KE.KStateDown
import Lean
import HandS.Ends
import HandS.Head0
import HandS.Head1
import HandS.Head2
import HandS.Head3
import PySem.Challenge.RW_plansasnewscome_k86_linear_one_of_three
set_option Elab.async false
set_option linter.all false
set_option maxRecDepth 100000
set_option maxHeartbeats 4000000
/-! M1: a small interpreter of the Python subset, over plain data. -/
namespace MP
open PySem

/-- plain data: lists are frozen (never changed) unless they stand in the store (ref) -/
inductive D where
  | non | bl (b : Bool) | int (i : Int) | str (x : Str)
  | tup (xs : List D) | lst (xs : List D)
  | obj (c : Nat) (fs : List (Nat × D))
  | ref (n : Nat)
  | exc (c : Nat) (as : List D)
  deriving Inhabited

inductive SO where
  | lst (xs : List D) | dct (kvs : List (D × D)) | ins (c : Nat) (fs : List (Nat × D)) | dead
  deriving Inhabited

abbrev St := List SO
abbrev En := List (Option D)

inductive Res (α : Type) where
  | ok (a : α) (st : St) | exc (c : Nat) (as : List D) (st : St) | bad

inductive RS where
  | next (env : En) (st : St) | ret (d : D) (st : St) | brk (env : En) (st : St) | cont (env : En) (st : St)
  | exc (c : Nat) (as : List D) (env : En) (st : St) | bad

def Res.bind {α β : Type} : Res α → (α → St → Res β) → Res β
  | .ok a st, k => k a st
  | .exc c as st, _ => .exc c as st
  | .bad, _ => .bad
def Res.bindS {α : Type} (env : En) : Res α → (α → St → RS) → RS
  | .ok a st, k => k a st
  | .exc c as st, _ => .exc c as env st
  | .bad, _ => .bad
def RS.bind : RS → (En → St → RS) → RS
  | .next e st, k => k e st
  | r, _ => r
/-- no exception may leave -/
def Res.calm {α : Type} : Res α → Res α
  | .ok a st => .ok a st
  | _ => .bad
def ofO {α : Type} (o : Option α) (st : St) : Res α := match o with
  | some a => .ok a st
  | none => .bad

def lim : Nat := 1000000

def strOk (x : Str) : Prop := x.length ≤ lim ∧ PyData.strOk x = true
instance (x : Str) : Decidable (strOk x) := by unfold strOk; infer_instance

/-! ### operations on data -/
def lstOf (st : St) : D → Option (List D)
  | .lst xs => some xs
  | .ref n => match st[n]? with
    | some (.lst xs) => some xs
    | _ => none
  | _ => none
def seqOf (st : St) : D → Option (List D)
  | .tup xs => some xs
  | d => lstOf st d
def mkL (m : Bool) (xs : List D) (st : St) : Res D := if m then .ok (.ref st.length) (st ++ [.lst xs]) else .ok (.lst xs) st

inductive BOp where
  | add | sub | mul | fdiv | mod | pow
def MulOk (i j : Int) : Prop := i.natAbs.log2 + j.natAbs.log2 < 60000000
instance (i j : Int) : Decidable (MulOk i j) := by unfold MulOk; infer_instance
def DivOk (j : Int) : Prop := j ≠ 0 ∧ j.natAbs.log2 < 9000
instance (j : Int) : Decidable (DivOk j) := by unfold DivOk; infer_instance
def Str.rep (x : Str) (n : Nat) : Str := ⟨((List.replicate n x.cps.toList).flatten).toArray⟩

def binD (o : BOp) (m : Bool) (a b : D) (st : St) : Res D :=
  match o, a, b with
  | .add, .int i, .int j => .ok (.int (i + j)) st
  | .add, .str x, .str y => if x.length + y.length ≤ lim then .ok (.str (x ++ y)) st else .bad
  | .add, .tup xs, .tup ys => if xs.length + ys.length ≤ lim then .ok (.tup (xs ++ ys)) st else .bad
  | .add, a, b => match lstOf st a, lstOf st b with
    | some xs, some ys => if xs.length + ys.length ≤ lim then mkL m (xs ++ ys) st else .bad
    | _, _ => .bad
  | .sub, .int i, .int j => .ok (.int (i - j)) st
  | .mul, .int i, .int j => if MulOk i j then .ok (.int (i * j)) st else .bad
  | .fdiv, .int i, .int j => if DivOk j then .ok (.int (i.fdiv j)) st else .bad
  | .mod, .int i, .int j => if j ≠ 0 then .ok (.int (i.fmod j)) st else .bad
  | .pow, .int i, .int j => if 0 ≤ j ∧ j ≤ 100 ∧ i.natAbs < 2 ^ 64 then .ok (.int (i ^ j.toNat)) st else .bad
  | _, _, _ => .bad

def truth (st : St) : D → Option Bool
  | .non => some false
  | .bl b => some b
  | .int i => some (i != 0)
  | .str x => some (x.length != 0)
  | .tup xs => some (!xs.isEmpty)
  | .lst xs => some (!xs.isEmpty)
  | .ref n => match st[n]? with
    | some (.lst xs) => some (!xs.isEmpty)
    | _ => none
  | _ => none

/-- as the kit's data (lists of the store looked up) -/
def pyd (st : St) : Nat → D → Option PyData
  | _, .non => some .none
  | _, .bl b => some (.bool b)
  | _, .int i => some (.int i)
  | _, .str x => some (.str x)
  | 0, _ => none
  | k + 1, .tup xs => (xs.mapM (pyd st k)).map .tuple
  | k + 1, .lst xs => (xs.mapM (pyd st k)).map .list
  | k + 1, .ref n => match st[n]? with
    | some (.lst xs) => (xs.mapM (pyd st k)).map .list
    | _ => none
  | _, _ => none
def eqD (st : St) (a b : D) : Option Bool := (pyd st 12 a).bind fun x => (pyd st 12 b).map fun y => PyData.eqv x y

inductive COp where
  | lt | le | gt | ge | eq | ne | isN | notN | mem | nmem
def flat : D → Bool
  | .non => true | .bl _ => true | .int _ => true | .str _ => true | _ => false
/-- equality of flat things -/
def eqF (a b : D) : Bool := match a, b with
  | .non, .non => true
  | .bl x, .bl y => x == y
  | .int i, .int j => decide (i = j)
  | .bl x, .int j => decide ((if x then (1 : Int) else 0) = j)
  | .int i, .bl y => decide (i = (if y then (1 : Int) else 0))
  | .str x, .str y => decide (x = y)
  | _, _ => false
def keyD (a b : D) : Bool := match a, b with
  | .int i, .int j => decide (i = j)
  | .str x, .str y => decide (x = y)
  | _, _ => false
def isKey : D → Bool
  | .int _ => true | .str _ => true | _ => false
def memD (st : St) (x y : D) : Option Bool := match y with
  | .str t => match x with
    | .str s => some (!(Builtin.Str.occurrences t s 0 t.length 1).isEmpty)
    | _ => none
  | .ref n => match st[n]? with
    | some (.lst xs) => if flat x && xs.all flat then some (xs.any fun z => eqF z x) else none
    | _ => none
  | .lst xs => if flat x && xs.all flat then some (xs.any fun z => eqF z x) else none
  | .tup xs => if flat x && xs.all flat then some (xs.any fun z => eqF z x) else none
  | _ => none
def cmpD (st : St) (o : COp) (a b : D) : Option Bool := match o with
  | .lt => match a, b with | .int i, .int j => some (decide (i < j)) | _, _ => none
  | .le => match a, b with | .int i, .int j => some (decide (i ≤ j)) | _, _ => none
  | .gt => match a, b with | .int i, .int j => some (decide (j < i)) | _, _ => none
  | .ge => match a, b with | .int i, .int j => some (decide (j ≤ i)) | _, _ => none
  | .eq => eqD st a b
  | .ne => (eqD st a b).map (!·)
  | .isN => match b with
    | .non => (match a with | .non => some true | .exc _ _ => none | _ => some false)
    | _ => none
  | .notN => match b with
    | .non => (match a with | .non => some false | .exc _ _ => none | _ => some true)
    | _ => none
  | .mem => memD st a b
  | .nmem => (memD st a b).map (!·)

/-- x[i] -/
def idxD (st : St) (a i : D) : Option D := match a, i with
  | .tup xs, .int k => L2.atI xs k
  | .lst xs, .int k => L2.atI xs k
  | .str x, .int k => (L2.atI x.cps.toList k).map fun c => .str ⟨#[c]⟩
  | .ref n, i => match st[n]?, i with
    | some (.lst xs), .int k => L2.atI xs k
    | _, _ => none
  | _, _ => none
def cutL {α : Type} (xs : List α) (lo hi : Option Int) : List α := (xs.drop (HT.sIx xs.length 0 lo)).take (HT.sIx xs.length xs.length hi - HT.sIx xs.length 0 lo)
def slcD (m : Bool) (a : D) (lo hi : Option Int) (st : St) : Res D := match a with
  | .str x => .ok (.str ⟨(cutL x.cps.toList lo hi).toArray⟩) st
  | .tup xs => .ok (.tup (cutL xs lo hi)) st
  | a => match lstOf st a with
    | some xs => mkL m (cutL xs lo hi) st
    | none => .bad
def revD (m : Bool) (a : D) (st : St) : Res D := match lstOf st a with
  | some xs => mkL m xs.reverse st
  | none => .bad

/-- a[i] = v -/
def setD (a i v : D) (st : St) : Option St := match a with
  | .ref n => match st[n]? with
    | some (.lst xs) => match i with
      | .int k => (L2.ixN xs.length k).map fun j => st.set n (.lst (xs.set j v))
      | _ => none
    | _ => none
  | _ => none

/-- fields -/
def fldD (st : St) (a : D) (f : Nat) : Option D := match a with
  | .obj _ fs => fs.lookup f
  | .ref n => match st[n]? with
    | some (.ins _ fs) => fs.lookup f
    | _ => none
  | _ => none
def clsD (st : St) : D → Option Nat
  | .obj c _ => some c
  | .ref n => match st[n]? with
    | some (.ins c _) => some c
    | _ => none
  | _ => none
def putF (f : Nat) (v : D) : List (Nat × D) → List (Nat × D)
  | [] => [(f, v)]
  | (g, w) :: r => if g = f then (f, v) :: r else (g, w) :: putF f v r
def setF (a : D) (f : Nat) (v : D) (st : St) : Option St := match a with
  | .ref n => match st[n]? with
    | some (.ins c fs) => if fs.length < 40 then some (st.set n (.ins c (putF f v fs))) else none
    | _ => none
  | _ => none

/-! ### freezing: a list of the store becomes a plain value -/
mutual
def frz : Nat → D → St → Option (D × St)
  | _, .non, st => some (.non, st)
  | _, .bl b, st => some (.bl b, st)
  | _, .int i, st => some (.int i, st)
  | _, .str x, st => some (.str x, st)
  | _, .tup xs, st => some (.tup xs, st)
  | _, .lst xs, st => some (.lst xs, st)
  | _, .obj c fs, st => some (.obj c fs, st)
  | 0, _, _ => none
  | k + 1, .ref n, st => match st[n]? with
    | some (.lst xs) => match frzs k xs (st.set n .dead) with
      | some (ys, st') => some (.lst ys, st')
      | none => none
    | _ => none
  | _, .exc _ _, _ => none
def frzs : Nat → List D → St → Option (List D × St)
  | _, [], st => some ([], st)
  | k, x :: xs, st => match frz k x st with
    | some (y, st1) => match frzs k xs st1 with
      | some (ys, st2) => some (y :: ys, st2)
      | none => none
    | none => none
end

/-! ### built-ins -/
inductive Bi where
  | len | abs | max2 | min2 | max1 | min1 | sum1 | int1 | str1 | tuple1 | list1 | gcd | bool1
inductive Ty where
  | int | bool | str | tuple | list
def isT (st : St) (d : D) (t : Ty) : Option Bool := match d with
  | .non => some false
  | .bl _ => some (match t with | .int => true | .bool => true | _ => false)
  | .int _ => some (match t with | .int => true | _ => false)
  | .str _ => some (match t with | .str => true | _ => false)
  | .tup _ => some (match t with | .tuple => true | _ => false)
  | .lst _ => some (match t with | .list => true | _ => false)
  | .ref n => match st[n]? with
    | some (.lst _) => some (match t with | .list => true | _ => false)
    | _ => none
  | _ => none
def intsOf : List D → Option (List Int)
  | [] => some []
  | .int i :: r => (intsOf r).map (i :: ·)
  | _ => none
def maxI : List Int → Option Int
  | [] => none
  | i :: r => some (r.foldl (fun a b => if b > a then b else a) i)
def minI : List Int → Option Int
  | [] => none
  | i :: r => some (r.foldl (fun a b => if b < a then b else a) i)
def biD (b : Bi) (m : Bool) (as : List D) (st : St) : Res D := match b, as with
  | .len, [.str x] => .ok (.int x.length) st
  | .len, [a] => match seqOf st a with
    | some xs => .ok (.int xs.length) st
    | none => .bad
  | .abs, [.int i] => .ok (.int (if i < 0 then -i else i)) st
  | .max2, [.int i, .int j] => .ok (.int (if j > i then j else i)) st
  | .min2, [.int i, .int j] => .ok (.int (if j < i then j else i)) st
  | .max1, [a] => match (lstOf st a).bind intsOf with
    | some ns => ofO ((maxI ns).map .int) st
    | none => .bad
  | .min1, [a] => match (lstOf st a).bind intsOf with
    | some ns => ofO ((minI ns).map .int) st
    | none => .bad
  | .sum1, [a] => match (lstOf st a).bind intsOf with
    | some ns => .ok (.int ns.sum) st
    | none => .bad
  | .int1, [.int i] => .ok (.int i) st
  | .int1, [.bl b] => .ok (.int (if b then 1 else 0)) st
  | .int1, [.str x] => match intText? x with
    | some n => if x.length ≤ 640 then .ok (.int n) st else .bad
    | none => .bad
  | .str1, [.int i] => if i.natAbs.log2 < 1900 ∧ strOk (Str.ofString (toString i)) then .ok (.str (Str.ofString (toString i))) st else .bad
  | .tuple1, [.tup xs] => .ok (.tup xs) st
  | .tuple1, [a] => match lstOf st a with
    | some xs => .ok (.tup xs) st
    | none => .bad
  | .list1, [a] => match seqOf st a with
    | some xs => mkL m xs st
    | none => .bad
  | .gcd, [.int i, .int j] => .ok (.int (Nat.gcd i.natAbs j.natAbs : Nat)) st
  | _, _ => .bad

/-- built-in methods -/
inductive Bm where
  | append | index | pop0 | clear | split1 | join | strip1
def bmD (b : Bm) (m : Bool) (o : D) (as : List D) (st : St) : Res D := match b, o, as with
  | .append, .ref n, [d] => match st[n]? with
    | some (.lst xs) => if xs.length < lim then .ok .non (st.set n (.lst (xs ++ [d]))) else .bad
    | _ => .bad
  | .pop0, .ref n, [] => match st[n]? with
    | some (.lst xs) => match xs.getLast? with
      | some d => .ok d (st.set n (.lst xs.dropLast))
      | none => .bad
    | _ => .bad
  | .clear, .ref n, [] => match st[n]? with
    | some (.lst _) => .ok .non (st.set n (.lst []))
    | _ => .bad
  | .index, a, [d] => match lstOf st a with
    | some xs => if flat d && xs.all flat then ofO ((xs.findIdx? fun z => eqF z d).map fun (j : Nat) => .int j) st else .bad
    | none => .bad
  | _, _, _ => .bad

/-- the receiver is of the method's type -/
def bmT (b : Bm) (o : D) (st : St) : Bool := match b with
  | .append | .index | .pop0 | .clear => (lstOf st o).isSome
  | _ => false

/-! ### the syntax -/
inductive Cst where
  | non | bl (b : Bool) | int (i : Int) | str (x : Str)
def Cst.d : Cst → D
  | .non => .non | .bl b => .bl b | .int i => .int i | .str x => .str x

/-- what a loop binds: a name by its slot; names in a tuple -/
inductive Tg where
  | name (p : Pos) (i : Nat) | tup (p : Pos) (k : Nat) (ns : List (Pos × Nat))

mutual
inductive E where
  | cst (p : Pos) (k : Nat) (c : Cst)
  | var (p : Pos) (i : Nat)
  | glob (p : Pos) (g : Nat)
  | bin (p : Pos) (m : Bool) (o : BOp) (a b : E)
  | neg (p : Pos) (a : E)
  | not (p : Pos) (a : E)
  | and (p : Pos) (es : Es)
  | or (p : Pos) (es : Es)
  | cmp (p : Pos) (o : COp) (a b : E)
  | chain (p : Pos) (o o' : COp) (a b c : E)
  | ifx (p : Pos) (t a b : E)
  | tup (p : Pos) (k : Nat) (es : Es)
  | lst (p : Pos) (m : Bool) (es : Es)
  | dnew (p : Pos)
  | idx (p : Pos) (a i : E)
  | slc (p p2 : Pos) (m : Bool) (a : E) (lo hi : O)
  | rev (p p2 : Pos) (k : Nat) (p3 p4 : Pos) (m : Bool) (a : E)
  | call (p q : Pos) (f : Nat) (es : Es)
  | make (p q : Pos) (c : Nat) (es : Es)
  | bi (p q : Pos) (b : Bi) (m : Bool) (es : Es)
  | isin (p q : Pos) (a : E) (q2 : Pos) (t : Ty)
  | meth (p ap : Pos) (o : E) (f : Nat) (es : Es)
  | bm (p ap : Pos) (b : Bm) (m : Bool) (o : E) (es : Es)
  | attr (p : Pos) (o : E) (f : Nat)
  | comp (p : Pos) (m : Bool) (sc : Scope) (own : List (Str × Nat)) (elt : E) (tg : Tg) (it : It) (ifs : Es)
  | lrng (p q p2 q2 : Pos) (m : Bool) (a : E)
  | frz (e : E)
inductive O where
  | no | yes (e : E)
inductive Es where
  | nil | cons (e : E) (es : Es)
/-- what is walked -/
inductive It where
  | rng1 (p q : Pos) (a : E) | rng2 (p q : Pos) (a b : E) | of (e : E)
end

inductive G where
  | name (p : Pos) (i : Nat) | tup (p : Pos) (k : Nat) (ns : List (Pos × Nat)) | sub (p : Pos) (o i : E) | attr (p : Pos) (o : E) (f : Nat)
  | subs (p : Pos) (k : Nat) (gs : List (Pos × E × E))

mutual
inductive S where
  | asg (p : Pos) (g : G) (e : E)
  | par (p p1 : Pos) (k : Nat) (px py : Pos) (i j : Nat) (p2 : Pos) (k2 : Nat) (a b : E)
  | aug (p p1 : Pos) (i : Nat) (e : E)
  | expr (p : Pos) (e : E)
  | ret (p : Pos) (e : E)
  | retN (p : Pos)
  | if_ (p : Pos) (t : E) (a b : Ss)
  | for_ (p : Pos) (tg : Tg) (it : It) (b : Ss)
  | while_ (p : Pos) (t : E) (b : Ss)
  | raise (p p2 q : Pos) (c : Nat) (es : Es)
  | pass (p : Pos) | brk (p : Pos) | cont (p : Pos)
  | try_ (p : Pos) (b : Ss) (hs : Hs)
  | frz (i : Nat)
inductive Ss where
  | nil | cons (s : S) (ss : Ss)
inductive Hs where
  | nil | cons (p np : Pos) (c : Nat) (i : Option Nat) (b : Ss) (hs : Hs)
end

/-! ### the meaning -/
structure Cfg where
  call : Nat → List D → St → Res D
  glob : Nat → Option D
  /-- a class's method, property -/
  meth : Nat → Nat → Option Nat
  prop : Nat → Nat → Option Nat
  init : Nat → Option Nat
  frozen : Nat → Bool
  /-- an exception's class: how many fields; the place of a field -/
  exf : Nat → Option Nat
  exat : Nat → Nat → Option Nat
  sub : Nat → Nat → Bool
  /-- the class's instances have this field -/
  isF : Nat → Nat → Bool
  fuel : Nat

def bindT (tg : Tg) (d : D) (env : En) : Option En := match tg with
  | .name _ i => some (env.set i (some d))
  | .tup _ _ ns => match d with
    | .tup xs => if xs.length = ns.length then some ((ns.zip xs).foldl (fun e (q : (Pos × Nat) × D) => e.set q.1.2 (some q.2)) env) else none
    | _ => none
def wipeE (env : En) : List Nat → En
  | [] => env
  | v :: vs => (wipeE env vs).set v none

/-- what is walked: fixed items, or a list of the store -/
inductive Wk where
  | items (xs : List D) | cell (n : Nat)
def wkD (st : St) : D → Option Wk
  | .str x => some (.items (x.cps.toList.map fun c => .str ⟨#[c]⟩))
  | .tup xs => some (.items xs)
  | .lst xs => some (.items xs)
  | .ref n => match st[n]? with
    | some (.lst _) => some (.cell n)
    | _ => none
  | _ => none
def rangeL (lo hi : Int) : List D := (List.range (hi - lo).toNat).map fun (i : Nat) => D.int (lo + (i : Int))
def small (i : Int) : Prop := -500000 ≤ i ∧ i ≤ 500000
instance (i : Int) : Decidable (small i) := by unfold small; infer_instance

/-! loops -/
def forL (body : D → En → St → RS) : List D → En → St → RS
  | [], env, st => .next env st
  | x :: xs, env, st => match body x env st with
    | .next e s => forL body xs e s
    | .cont e s => forL body xs e s
    | .brk e s => .next e s
    | r => r
def forR (body : D → En → St → RS) (n : Nat) : Nat → Nat → En → St → RS
  | 0, _, _, _ => .bad
  | k + 1, i, env, st => match st[n]? with
    | some (.lst xs) => match xs[i]? with
      | none => .next env st
      | some x => match body x env st with
        | .next e s => forR body n k (i + 1) e s
        | .cont e s => forR body n k (i + 1) e s
        | .brk e s => .next e s
        | r => r
    | _ => .bad
/-- a comprehension's turns: the element, if it is kept -/
def compL (body : D → St → Res (Option D)) : List D → List D → St → Res (List D)
  | [], acc, st => .ok acc st
  | x :: xs, acc, st => match body x st with
    | .ok (some y) s => compL body xs (acc ++ [y]) s
    | .ok none s => compL body xs acc s
    | _ => .bad
def compR (body : D → St → Res (Option D)) (n : Nat) : Nat → Nat → List D → St → Res (List D)
  | 0, _, _, _ => .bad
  | k + 1, i, acc, st => match st[n]? with
    | some (.lst xs) => match xs[i]? with
      | none => .ok acc st
      | some x => match body x st with
        | .ok (some y) s => compR body n k (i + 1) (acc ++ [y]) s
        | .ok none s => compR body n k (i + 1) acc s
        | _ => .bad
    | _ => .bad
def whileN (t : En → St → Res Bool) (body : En → St → RS) : Nat → En → St → RS
  | 0, _, _ => .bad
  | k + 1, env, st => (t env st).bindS env fun b s => if b then (match body env s with
    | .next e s => whileN t body k e s
    | .cont e s => whileN t body k e s
    | .brk e s => .next e s
    | r => r) else .next env s

def tstD (d : D) (st : St) : Res Bool := ofO (truth st d) st

/-- a name's value; a caught error is read by its fields alone -/
def getV (env : En) (i : Nat) : Option D := match env[i]? with
  | some (some (.exc _ _)) => none
  | some o => o
  | none => none
section
variable (c : Cfg)
def findM (o : D) (f : Nat) (st : St) : Option Nat := match fldD st o f with
  | some _ => none
  | none => (clsD st o).bind fun k => c.meth k f
def makeD (k : Nat) (as : List D) (st : St) : Res D := match c.init k with
  | some fn => (c.call fn (.ref st.length :: as) (st ++ [.ins k []])).bind fun d st' => match d with
    | .non => if c.frozen k then (match st'[st.length]? with
      | some (.ins k' fs) => .ok (.obj k' fs) (st'.set st.length .dead)
      | _ => .bad) else .ok (.ref st.length) st'
    | _ => .bad
  | none => .bad
def attrD (o : D) (f : Nat) (st : St) : Res D := match o with
  | .exc k as => match c.exat k f with
    | some j => ofO as[j]? st
    | none => .bad
  | o => match fldD st o f with
    | some d => if (match clsD st o with | some k => c.isF k f | none => false) then .ok d st else .bad
    | none => match clsD st o with
      | some k => match c.prop k f with
        | some fn => c.call fn [o] st
        | none => .bad
      | none => .bad

mutual
def ev : E → En → St → Res D
  | .cst _ _ k, _, st => .ok k.d st
  | .var _ i, env, st => ofO (getV env i) st
  | .glob _ g, _, st => ofO (c.glob g) st
  | .bin _ m o a b, env, st => (ev a env st).bind fun x s => (ev b env s).bind fun y s => binD o m x y s
  | .neg _ a, env, st => (ev a env st).bind fun x s => match x with
    | .int i => .ok (.int (-i)) s
    | _ => .bad
  | .not _ a, env, st => ((ev a env st).bind tstD).bind fun b s => .ok (.bl (!b)) s
  | .and _ es, env, st => evAnd es env st
  | .or _ es, env, st => evOr es env st
  | .cmp _ o a b, env, st => (ev a env st).bind fun x s => (ev b env s).bind fun y s => ofO ((cmpD s o x y).map .bl) s
  | .chain _ o o' a b d, env, st => (ev a env st).bind fun x s => (ev b env s).bind fun y s => (ofO (cmpD s o x y) s).bind fun q s =>
    if q then (ev d env s).bind fun z s => ofO ((cmpD s o' y z).map .bl) s else .ok (.bl false) s
  | .ifx _ t a b, env, st => ((ev t env st).bind tstD).bind fun q s => if q then ev a env s else ev b env s
  | .tup _ _ es, env, st => (evs es env st).bind fun xs s => .ok (.tup xs) s
  | .lst _ m es, env, st => (evs es env st).bind fun xs s => mkL m xs s
  | .dnew _, _, st => .ok (.ref st.length) (st ++ [.dct []])
  | .idx _ a i, env, st => (ev a env st).bind fun x s => (ev i env s).bind fun y s => ofO (idxD s x y) s
  | .slc _ _ m a lo hi, env, st => (ev a env st).bind fun x s => (evO lo env s).bind fun l s => (evO hi env s).bind fun h s => slcD m x l h s
  | .rev _ _ _ _ _ m a, env, st => (ev a env st).bind fun x s => revD m x s
  | .call _ _ f es, env, st => (evs es env st).bind fun xs s => c.call f xs s
  | .make _ _ k es, env, st => (evs es env st).bind fun xs s => makeD c k xs s
  | .bi _ _ b m es, env, st => (evs es env st).bind fun xs s => biD b m xs s
  | .isin _ _ a _ t, env, st => (ev a env st).bind fun x s => ofO ((isT s x t).map .bl) s
  | .meth _ _ o f es, env, st => (ev o env st).bind fun x s => match findM c x f s with
    | some g => (evs es env s).bind fun xs s => c.call g (x :: xs) s
    | none => .bad
  | .bm _ _ b m o es, env, st => (ev o env st).bind fun x s => if bmT b x s then (evs es env s).bind fun xs s => bmD b m x xs s else .bad
  | .attr _ o f, env, st => (ev o env st).bind fun x s => attrD c x f s
  | .comp _ m _ own elt tg it ifs, env, st => (evI it env st).bind fun w s =>
    let body : D → St → Res (Option D) := fun x s => match bindT tg x (wipeE env (own.map (·.2))) with
      | some env' => (evAllT ifs env' s).bind fun q s => if q then (ev elt env' s).bind fun y s => .ok (some y) s else .ok none s
      | none => .bad
    (match w with
      | .items xs => compL body xs [] s
      | .cell n => compR body n c.fuel 0 [] s).bind fun ys s => mkL m ys s
  | .lrng _ _ _ _ m a, env, st => (ev a env st).bind fun x s => match x with
    | .int i => if small i then mkL m (rangeL 0 i) s else .bad
    | _ => .bad
  | .frz e, env, st => (ev e env st).bind fun x s => match frz 6 x s with
    | some (y, s') => .ok y s'
    | none => .bad
def evs : Es → En → St → Res (List D)
  | .nil, _, st => .ok [] st
  | .cons e es, env, st => (ev e env st).bind fun x s => (evs es env s).bind fun xs s => .ok (x :: xs) s
def evO : O → En → St → Res (Option Int)
  | .no, _, st => .ok none st
  | .yes e, env, st => (ev e env st).bind fun x s => match x with
    | .int i => .ok (some i) s
    | _ => .bad
def evAnd : Es → En → St → Res D
  | .nil, _, _ => .bad
  | .cons e .nil, env, st => ev e env st
  | .cons e es, env, st => (ev e env st).bind fun x s => match x with
    | .bl true => evAnd es env s
    | .bl false => .ok (.bl false) s
    | _ => .bad
def evOr : Es → En → St → Res D
  | .nil, _, _ => .bad
  | .cons e .nil, env, st => ev e env st
  | .cons e es, env, st => (ev e env st).bind fun x s => match x with
    | .bl false => evOr es env s
    | .bl true => .ok (.bl true) s
    | _ => .bad
def evAllT : Es → En → St → Res Bool
  | .nil, _, st => .ok true st
  | .cons e es, env, st => (ev e env st).bind fun x s => (tstD x s).bind fun q s => if q then evAllT es env s else .ok false s
def evI : It → En → St → Res Wk
  | .rng1 _ _ a, env, st => (ev a env st).bind fun x s => match x with
    | .int i => if small i then .ok (.items (rangeL 0 i)) s else .bad
    | _ => .bad
  | .rng2 _ _ a b, env, st => (ev a env st).bind fun x s => (ev b env s).bind fun y s => match x, y with
    | .int i, .int j => if small i ∧ small j then .ok (.items (rangeL i j)) s else .bad
    | _, _ => .bad
  | .of e, env, st => (ev e env st).bind fun x s => ofO (wkD s x) s
end
def evT (e : E) (env : En) (st : St) : Res Bool := (ev c e env st).bind tstD

/-- a target takes a value -/
def asgSubs : List (Pos × E × E) → List D → En → St → Res Unit
  | [], [], _, st => .ok () st
  | (_, o, i) :: gs, d :: ds, env, st => (ev c o env st).bind fun x s => (ev c i env s).bind fun y s => match setD x y d s with
    | some s' => asgSubs gs ds env s'
    | none => .bad
  | _, _, _, _ => .bad
def asgG (g : G) (d : D) (env : En) (st : St) : RS := match g with
  | .name _ i => .next (env.set i (some d)) st
  | .tup p k ns => match bindT (.tup p k ns) d env with
    | some e => .next e st
    | none => .bad
  | .sub _ o i => (ev c o env st).bindS env fun x s => (ev c i env s).bindS env fun y s => match setD x y d s with
    | some s' => .next env s'
    | none => .bad
  | .attr _ o f => (ev c o env st).bindS env fun x s => if (match clsD s x with | some k => c.isF k f | none => false) then (match setF x f d s with
    | some s' => .next env s'
    | none => .bad) else .bad
  | .subs _ _ gs => match d with
    | .tup ds => if ds.length = gs.length then (asgSubs c gs ds env st).bindS env fun _ s => .next env s else .bad
    | _ => .bad

mutual
def ex : S → En → St → RS
  | .asg _ g e, env, st => (ev c e env st).bindS env fun d s => asgG c g d env s
  | .par _ _ _ _ _ i j _ _ a b, env, st => (ev c a env st).bindS env fun x s => (ev c b env s).bindS env fun y s => .next ((env.set i (some x)).set j (some y)) s
  | .aug _ _ i e, env, st => match env[i]?.join with
    | some (.int a) => (ev c e env st).bindS env fun y s => match y with
      | .int b => .next (env.set i (some (.int (a + b)))) s
      | _ => .bad
    | _ => .bad
  | .expr _ e, env, st => (ev c e env st).bindS env fun _ s => .next env s
  | .ret _ e, env, st => (ev c e env st).bindS env fun d s => .ret d s
  | .retN _, _, st => .ret .non st
  | .if_ _ t a b, env, st => (evT c t env st).bindS env fun q s => if q then exs a env s else exs b env s
  | .for_ _ tg it b, env, st => (evI c it env st).bindS env fun w s =>
    let body : D → En → St → RS := fun x e s => match bindT tg x e with
      | some e' => exs b e' s
      | none => .bad
    match w with
    | .items xs => forL body xs env s
    | .cell n => forR body n c.fuel 0 env s
  | .while_ _ t b, env, st => whileN (fun e s => evT c t e s) (fun e s => exs b e s) c.fuel env st
  | .raise _ _ _ k es, env, st => if (c.exf k).isSome then (evs c es env st).bindS env fun xs s => if c.exf k = some xs.length then .exc k xs env s else .bad else .bad
  | .pass _, env, st => .next env st
  | .brk _, env, st => .brk env st
  | .cont _, env, st => .cont env st
  | .try_ _ b hs, env, st => match exs b env st with
    | .exc k as e s => exh hs k as e s
    | r => r
  | .frz i, env, st => match env[i]?.join with
    | some d => match frz 6 d st with
      | some (d', st') => .next (env.set i (some d')) st'
      | none => .bad
    | none => .bad
def exs : Ss → En → St → RS
  | .nil, env, st => .next env st
  | .cons s ss, env, st => match ex s env st with
    | .next e s' => exs ss e s'
    | r => r
def exh : Hs → Nat → List D → En → St → RS
  | .nil, k, as, env, st => .exc k as env st
  | .cons _ _ h i b hs, k, as, env, st => if c.sub k h then (match i with
      | some j => (match exs b (env.set j (some (.exc k as))) st with
        | .next e s => .next (e.set j none) s
        | .brk e s => .brk (e.set j none) s
        | .cont e s => .cont (e.set j none) s
        | .ret d s => .ret d s
        | _ => .bad)
      | none => match exs b env st with
        | .exc _ _ _ _ => .bad
        | r => r) else exh hs k as env st
end
end

/-! ### a program -/
structure Fn where
  np : Nat
  ns : Nat
  dfl : List D
  body : Ss
  pure : Bool
structure Pg where
  fns : List Fn
  glob : Nat → Option D
  meth : Nat → Nat → Option Nat
  prop : Nat → Nat → Option Nat
  init : Nat → Option Nat
  frozen : Nat → Bool
  exf : Nat → Option Nat
  exat : Nat → Nat → Option Nat
  sub : Nat → Nat → Bool
  isF : Nat → Nat → Bool
mutual
/-- nothing of the store is named -/
def nr : D → Bool
  | .ref _ => false
  | .exc _ _ => false
  | .tup xs => nrs xs
  | .lst xs => nrs xs
  | .obj _ fs => nrf fs
  | _ => true
def nrs : List D → Bool
  | [] => true
  | x :: xs => nr x && nrs xs
def nrf : List (Nat × D) → Bool
  | [] => true
  | (_, x) :: xs => nr x && nrf xs
end
section
variable (P : Pg) (chk : St → St → Bool) (fuel : Nat)
def cfgOf (call : Nat → List D → St → Res D) : Cfg := ⟨call, P.glob, P.meth, P.prop, P.init, P.frozen, P.exf, P.exat, P.sub, P.isF, fuel⟩
def fin (pure : Bool) (d : D) (st s : St) : Res D := if pure then (if chk (s.take st.length) st && nr d then .ok d st else .bad) else .ok d s
/-- the arguments with the defaults -/
def filled (F : Fn) (as : List D) : Option (List D) :=
  if as.length ≤ F.np ∧ F.np - as.length ≤ F.dfl.length then some (as ++ F.dfl.drop (F.dfl.length - (F.np - as.length))) else none
def runF (F : Fn) (call : Nat → List D → St → Res D) (as : List D) (st : St) : Res D :=
  match exs (cfgOf P fuel call) F.body (as.map some ++ List.replicate (F.ns - F.np) none) st with
  | .next _ s => fin chk F.pure .non st s
  | .ret d s => fin chk F.pure d st s
  | .exc k xs _ s => if F.pure then (if chk (s.take st.length) st && nrs xs then .exc k xs st else .bad) else .exc k xs s
  | _ => .bad
def callF : Nat → Nat → List D → St → Res D
  | 0, _, _, _ => .bad
  | k + 1, f, as, st => match P.fns[f]? with
    | none => .bad
    | some F => match filled F as with
      | none => .bad
      | some as' => runF P chk fuel F (callF k) as' st
end
end MP
set_option linter.all false
set_option maxRecDepth 100000
set_option maxHeartbeats 4000000
/-! M2: how the plain data lie in the heap. -/
namespace MP
open PySem PySem.Spec PyProof.Rows L2

/-- the text's addresses -/
structure Tx where
  prog : Program
  w : World
  K : PySem.W.Frag
  mg : Str → Option Value
  base : Heap
  fa : Nat → Addr
  fd : Nat → FuncData
  ca : Nat → Addr
  fld : Nat → Str

/-- frozen objects, where the store's objects lie, how many there are, the heap -/
structure Wd where
  F : Addr → Prop
  r : Nat → Addr
  n : Nat
  H : Hp
  /-- a list that is being made: nobody else's -/
  P : Addr → Prop

def TupA (T : Tx) (w : Wd) (a : Addr) (vs : List V) : Prop := SqT T.K w.H a vs ∧ (w.F a ∨ ∀ H, SqT T.K H a vs)
def LstA (_ : Tx) (w : Wd) (a : Addr) (vs : List V) : Prop := Rd w.H a (.lst vs) ∧ w.F a
theorem LstA.sq {T : Tx} {w : Wd} {a : Addr} {vs : List V} (h : LstA T w a vs) : SqL T.K w.H a vs := .inl h.1

mutual
inductive RV (T : Tx) (w : Wd) : V → D → Prop
  | non : RV T w .non .non
  | bl (b : Bool) : RV T w (.bl b) (.bl b)
  | int (i : Int) : RV T w (.int i) (.int i)
  | str {x : Str} (h : strOk x) : RV T w (.str x) (.str x)
  | tup {a : Addr} {vs : List V} {xs : List D} (h : TupA T w a vs) (hl : xs.length ≤ lim) (r : RVs T w vs xs) : RV T w (.ref a) (.tup xs)
  | lst {a : Addr} {vs : List V} {xs : List D} (h : LstA T w a vs) (hl : xs.length ≤ lim) (r : RVs T w vs xs) : RV T w (.ref a) (.lst xs)
  | obj {a dx : Addr} {c : Nat} {vs : List (Str × V)} {fs : List (Nat × D)} (h : w.H a = some (.ins (T.ca c) dx vs)) (hf : w.F a) (r : RFs T w vs fs) : RV T w (.ref a) (.obj c fs)
  | ref {i : Nat} (h : i < w.n) : RV T w (.ref (w.r i)) (.ref i)
inductive RVs (T : Tx) (w : Wd) : List V → List D → Prop
  | nil : RVs T w [] []
  | cons {v : V} {vs : List V} {d : D} {ds : List D} (h : RV T w v d) (r : RVs T w vs ds) : RVs T w (v :: vs) (d :: ds)
inductive RFs (T : Tx) (w : Wd) : List (Str × V) → List (Nat × D) → Prop
  | nil : RFs T w [] []
  | cons {f : Nat} {v : V} {vs : List (Str × V)} {d : D} {ds : List (Nat × D)} (h : RV T w v d) (r : RFs T w vs ds) : RFs T w ((T.fld f, v) :: vs) ((f, d) :: ds)
end

/-- a later world -/
structure Ext0 (w w' : Wd) : Prop where
  f : ∀ a, w.F a → w'.F a
  h : ∀ a, w.F a → w'.H a = w.H a
  r : ∀ i, i < w.n → w'.r i = w.r i
  n : w.n ≤ w'.n
structure Ext (w w' : Wd) : Prop extends Ext0 w w' where
  p : ∀ a, w.P a → w'.P a ∧ w'.H a = w.H a
theorem Ext0.trans {a b c : Wd} (x : Ext0 a b) (y : Ext0 b c) : Ext0 a c :=
  ⟨fun p h => y.f p (x.f p h), fun p h => (y.h p (x.f p h)).trans (x.h p h), fun i h => (y.r i (Nat.lt_of_lt_of_le h x.n)).trans (x.r i h), Nat.le_trans x.n y.n⟩
theorem Ext.refl (w : Wd) : Ext w w := ⟨⟨fun _ h => h, fun _ _ => rfl, fun _ _ => rfl, Nat.le_refl _⟩, fun _ h => ⟨h, rfl⟩⟩
theorem Ext.trans {a b c : Wd} (x : Ext a b) (y : Ext b c) : Ext a c :=
  ⟨x.toExt0.trans y.toExt0, fun p h => ⟨(y.p p (x.p p h).1).1, (y.p p (x.p p h).1).2.trans (x.p p h).2⟩⟩

section
variable {T : Tx} {w w' : Wd}
theorem sqT_at {K : PySem.W.Frag} {H H' : Hp} {a : Addr} {vs : List V} (e : H' a = H a) (h : SqT K H a vs) : SqT K H' a vs := by
  rcases h with (h | ⟨o, h⟩) | h
  · exact .inl (.inl (e.trans h))
  · exact .inl (.inr ⟨o, e.trans h⟩)
  · exact .inr h
theorem sqL_at {K : PySem.W.Frag} {H H' : Hp} {a : Addr} {vs : List V} (e : H' a = H a) (h : SqL K H a vs) : SqL K H' a vs := by
  rcases h with (h | ⟨o, h⟩) | h
  · exact .inl (.inl (e.trans h))
  · exact .inl (.inr ⟨o, e.trans h⟩)
  · exact .inr h
theorem TupA.mono0 {a : Addr} {vs : List V} (x : Ext0 w w') (h : TupA T w a vs) : TupA T w' a vs := by
  rcases h with ⟨h, hf | hf⟩
  · exact ⟨sqT_at (x.h a hf) h, .inl (x.f a hf)⟩
  · exact ⟨hf _, .inr hf⟩
theorem LstA.mono0 {a : Addr} {vs : List V} (x : Ext0 w w') (h : LstA T w a vs) : LstA T w' a vs := by
  obtain ⟨h | ⟨o, h⟩, hf⟩ := h
  · exact ⟨.inl ((x.h a hf).trans h), x.f a hf⟩
  · exact ⟨.inr ⟨o, (x.h a hf).trans h⟩, x.f a hf⟩
mutual
theorem RV.mono0 (x : Ext0 w w') : ∀ {v : V} {d : D}, RV T w v d → RV T w' v d
  | _, _, .non => .non
  | _, _, .bl b => .bl b
  | _, _, .int i => .int i
  | _, _, .str h => .str h
  | _, _, .tup h hl r => .tup (h.mono0 x) hl (RVs.mono0 x r)
  | _, _, .lst h hl r => .lst (h.mono0 x) hl (RVs.mono0 x r)
  | _, _, .obj h hf r => .obj ((x.h _ hf).trans h) (x.f _ hf) (RFs.mono0 x r)
  | _, _, .ref (i := i) h => by
    rw [← x.r i h]
    exact .ref (Nat.lt_of_lt_of_le h x.n)
theorem RVs.mono0 (x : Ext0 w w') : ∀ {vs : List V} {ds : List D}, RVs T w vs ds → RVs T w' vs ds
  | _, _, .nil => .nil
  | _, _, .cons h r => .cons (RV.mono0 x h) (RVs.mono0 x r)
theorem RFs.mono0 (x : Ext0 w w') : ∀ {vs : List (Str × V)} {ds : List (Nat × D)}, RFs T w vs ds → RFs T w' vs ds
  | _, _, .nil => .nil
  | _, _, .cons h r => .cons (RV.mono0 x h) (RFs.mono0 x r)
end
theorem TupA.mono {a : Addr} {vs : List V} (x : Ext w w') (h : TupA T w a vs) : TupA T w' a vs := h.mono0 x.toExt0
theorem LstA.mono {a : Addr} {vs : List V} (x : Ext w w') (h : LstA T w a vs) : LstA T w' a vs := h.mono0 x.toExt0
theorem RV.mono (x : Ext w w') {v : V} {d : D} (h : RV T w v d) : RV T w' v d := h.mono0 x.toExt0
theorem RVs.mono (x : Ext w w') {v : List V} {d : List D} (h : RVs T w v d) : RVs T w' v d := h.mono0 x.toExt0
theorem RFs.mono (x : Ext w w') {v : List (Str × V)} {d : List (Nat × D)} (h : RFs T w v d) : RFs T w' v d := h.mono0 x.toExt0
theorem RVs.length : ∀ {vs : List V} {ds : List D}, RVs T w vs ds → vs.length = ds.length
  | _, _, .nil => rfl
  | _, _, .cons _ r => by simp [RVs.length r]
theorem RVs.get : ∀ {vs : List V} {ds : List D} {i : Nat} {d : D}, RVs T w vs ds → ds[i]? = some d → ∃ v, vs[i]? = some v ∧ RV T w v d
  | _, _, _, _, .nil, e => by simp at e
  | _, _, 0, _, .cons h _, e => by simp at e; subst e; exact ⟨_, rfl, h⟩
  | _, _, i + 1, d, .cons _ r, e => by
    obtain ⟨v, h1, h2⟩ := RVs.get (i := i) (d := d) r (by simpa using e)
    exact ⟨v, by simpa using h1, h2⟩
theorem RVs.getV : ∀ {vs : List V} {ds : List D} {i : Nat} {v : V}, RVs T w vs ds → vs[i]? = some v → ∃ d, ds[i]? = some d ∧ RV T w v d
  | _, _, _, _, .nil, e => by simp at e
  | _, _, 0, _, .cons h _, e => by simp at e; subst e; exact ⟨_, rfl, h⟩
  | _, _, i + 1, v, .cons _ r, e => by
    obtain ⟨d, h1, h2⟩ := RVs.getV (i := i) (v := v) r (by simpa using e)
    exact ⟨d, by simpa using h1, h2⟩
theorem RVs.append : ∀ {vs us : List V} {ds es : List D}, RVs T w vs ds → RVs T w us es → RVs T w (vs ++ us) (ds ++ es)
  | _, _, _, _, .nil, s => s
  | _, _, _, _, .cons h r, s => .cons h (RVs.append r s)
theorem RVs.set {v : V} {d : D} (h : RV T w v d) : ∀ {vs : List V} {ds : List D} (i : Nat), RVs T w vs ds → RVs T w (vs.set i v) (ds.set i d)
  | _, _, _, .nil => .nil
  | _, _, 0, .cons _ r => .cons h r
  | _, _, i + 1, .cons q r => .cons q (RVs.set h i r)
theorem RVs.take : ∀ {vs : List V} {ds : List D} (n : Nat), RVs T w vs ds → RVs T w (vs.take n) (ds.take n)
  | _, _, 0, _ => .nil
  | _, _, _ + 1, .nil => .nil
  | _, _, n + 1, .cons h r => .cons h (RVs.take n r)
theorem RVs.drop : ∀ {vs : List V} {ds : List D} (n : Nat), RVs T w vs ds → RVs T w (vs.drop n) (ds.drop n)
  | _, _, 0, r => r
  | _, _, _ + 1, .nil => .nil
  | _, _, n + 1, .cons _ r => RVs.drop n r
theorem RVs.reverse {vs : List V} {ds : List D} (r : RVs T w vs ds) : RVs T w vs.reverse ds.reverse := by
  have go : ∀ (vs us : List V) (ds es : List D), RVs T w vs ds → RVs T w us es → RVs T w (vs.reverseAux us) (ds.reverseAux es) := by
    intro vs
    induction vs with
    | nil => intro us ds es r s; cases r; exact s
    | cons v vs ih => intro us ds es r s; cases r with | @cons _ _ d ds h r => exact ih (v :: us) ds (d :: es) r (.cons h s)
  exact go _ _ _ _ r .nil
theorem RVs.single {v : V} {d : D} (h : RV T w v d) : RVs T w [v] [d] := .cons h .nil

/-! how far the store's names reach -/
mutual
def refB (n : Nat) : D → Prop
  | .ref i => i < n
  | .tup xs => refBs n xs
  | .lst xs => refBs n xs
  | .obj _ fs => refBf n fs
  | _ => True
def refBs (n : Nat) : List D → Prop
  | [] => True
  | x :: xs => refB n x ∧ refBs n xs
def refBf (n : Nat) : List (Nat × D) → Prop
  | [] => True
  | (_, x) :: xs => refB n x ∧ refBf n xs
end
mutual
theorem RV.refB : ∀ {v : V} {d : D}, RV T w v d → refB w.n d
  | _, _, .non => by simp [MP.refB]
  | _, _, .bl b => by simp [MP.refB]
  | _, _, .int i => by simp [MP.refB]
  | _, _, .str h => by simp [MP.refB]
  | _, _, .tup h hl r => by rw [MP.refB]; exact RVs.refB r
  | _, _, .lst h hl r => by rw [MP.refB]; exact RVs.refB r
  | _, _, .obj h hf r => by rw [MP.refB]; exact RFs.refB r
  | _, _, .ref (i := i) h => by rw [MP.refB]; exact h
theorem RVs.refB : ∀ {vs : List V} {ds : List D}, RVs T w vs ds → refBs w.n ds
  | _, _, .nil => by simp [MP.refBs]
  | _, _, .cons h r => by rw [MP.refBs]; exact ⟨RV.refB h, RVs.refB r⟩
theorem RFs.refB : ∀ {vs : List (Str × V)} {ds : List (Nat × D)}, RFs T w vs ds → refBf w.n ds
  | _, _, .nil => by simp [MP.refBf]
  | _, _, .cons h r => by rw [MP.refBf]; exact ⟨RV.refB h, RFs.refB r⟩
end
mutual
theorem nr_refB (n : Nat) : ∀ {d : D}, nr d = true → refB n d
  | .non, _ => by simp [refB]
  | .bl b, _ => by simp [refB]
  | .int i, _ => by simp [refB]
  | .str h, _ => by simp [refB]
  | .tup xs, h => by rw [refB]; exact nrs_refB n (by simpa [nr] using h)
  | .lst xs, h => by rw [refB]; exact nrs_refB n (by simpa [nr] using h)
  | .obj c fs, h => by rw [refB]; exact nrf_refB n (by simpa [nr] using h)
  | .ref i, h => by simp [nr] at h
  | .exc i _, h => by simp [nr] at h
theorem nrs_refB (n : Nat) : ∀ {d : List D}, nrs d = true → refBs n d
  | [], _ => by simp [refBs]
  | x :: xs, h => by
    rw [nrs, Bool.and_eq_true] at h
    rw [refBs]; exact ⟨nr_refB n h.1, nrs_refB n h.2⟩
theorem nrf_refB (n : Nat) : ∀ {d : List (Nat × D)}, nrf d = true → refBf n d
  | [], _ => by simp [refBf]
  | (f, x) :: xs, h => by
    rw [nrf, Bool.and_eq_true] at h
    rw [refBf]; exact ⟨nr_refB n h.1, nrf_refB n h.2⟩
end
/-- fewer of the store's objects -/
def Wd.less (w : Wd) (n : Nat) : Wd := ⟨w.F, w.r, n, w.H, w.P⟩
mutual
theorem RV.less {n : Nat} : ∀ {v : V} {d : D}, RV T w v d → MP.refB n d → RV T (w.less n) v d
  | _, _, .non, _ => .non
  | _, _, .bl b, _ => .bl b
  | _, _, .int i, _ => .int i
  | _, _, .str h, _ => .str h
  | _, _, .tup h hl r, q => .tup h hl (RVs.less r (by rw [MP.refB] at q; exact q))
  | _, _, .lst h hl r, q => .lst h hl (RVs.less r (by rw [MP.refB] at q; exact q))
  | _, _, .obj h hf r, q => .obj h hf (RFs.less r (by rw [MP.refB] at q; exact q))
  | _, _, .ref (i := i) h, q => .ref (w := w.less n) (by rw [MP.refB] at q; exact q)
theorem RVs.less {n : Nat} : ∀ {vs : List V} {ds : List D}, RVs T w vs ds → refBs n ds → RVs T (w.less n) vs ds
  | _, _, .nil, _ => .nil
  | _, _, .cons h r, q => by
    rw [MP.refBs] at q
    exact .cons (RV.less h q.1) (RVs.less r q.2)
theorem RFs.less {n : Nat} : ∀ {vs : List (Str × V)} {ds : List (Nat × D)}, RFs T w vs ds → refBf n ds → RFs T (w.less n) vs ds
  | _, _, .nil, _ => .nil
  | _, _, .cons h r, q => by
    rw [MP.refBf] at q
    exact .cons (RV.less h q.1) (RFs.less r q.2)
end

/-- an object of the store -/
def RO (T : Tx) (w : Wd) (a : Addr) : SO → Prop
  | .lst xs => xs.length ≤ lim ∧ ∃ vs, w.H a = some (.lst vs) ∧ RVs T w vs xs
  | .dct kvs => kvs.length ≤ lim ∧ ∃ vs : List (Key × V), w.H a = some (.dK vs) ∧ RVs T w (vs.map fun p => kV p.1) (kvs.map (·.1)) ∧ RVs T w (vs.map (·.2)) (kvs.map (·.2))
  | .ins c fs => ∃ dx vs, w.H a = some (.ins (T.ca c) dx vs) ∧ RFs T w vs fs ∧ fs.length ≤ 40
  | .dead => True
/-- the store -/
structure RS' (T : Tx) (w : Wd) (st : St) : Prop where
  len : st.length = w.n
  ob : ∀ (i : Nat) (o : SO), st[i]? = some o → RO T w (w.r i) o
  apart : ∀ (i j : Nat) (o u : SO), st[i]? = some o → st[j]? = some u → o ≠ .dead → u ≠ .dead → w.r i = w.r j → i = j
  free : ∀ (i : Nat) (o : SO), st[i]? = some o → o ≠ .dead → ¬ w.F (w.r i)
  there : ∀ a, w.F a → ∃ o, w.H a = some o
  pv : ∀ a, w.P a → ¬ w.F a ∧ (∃ o, w.H a = some o) ∧ ∀ (i : Nat) (o : SO), st[i]? = some o → o ≠ .dead → w.r i ≠ a
/-- the names' values -/
def RE (T : Tx) (w : Wd) (σ : L2.St) (env : En) : Prop := σ.length = env.length ∧ ∀ (i : Nat) (d : D), env[i]? = some (some d) → (∃ k as, d = .exc k as) ∨ ∃ v, σ[i]? = some (some v) ∧ RV T w v d
theorem RE.mono0 {σ : L2.St} {env : En} (x : Ext0 w w') (h : RE T w σ env) : RE T w' σ env := ⟨h.1, fun i d e => by
  rcases h.2 i d e with q | ⟨v, h1, h2⟩
  · exact .inl q
  · exact .inr ⟨v, h1, h2.mono0 x⟩⟩
theorem RE.mono {σ : L2.St} {env : En} (x : Ext w w') (h : RE T w σ env) : RE T w' σ env := h.mono0 x.toExt0
theorem RO.there {a : Addr} {o : SO} (h : RO T w a o) (hd : o ≠ .dead) : ∃ u, w.H a = some u := by
  cases o with
  | lst xs => obtain ⟨_, vs, e, _⟩ := h; exact ⟨_, e⟩
  | dct kvs => obtain ⟨_, vs, e, _⟩ := h; exact ⟨_, e⟩
  | ins c fs => obtain ⟨dx, vs, e, _⟩ := h; exact ⟨_, e⟩
  | dead => exact absurd rfl hd
theorem RO.mono0 {a : Addr} {o : SO} (x : Ext0 w w') (e : w'.H a = w.H a) (h : RO T w a o) : RO T w' a o := by
  cases o with
  | lst xs => obtain ⟨hl, vs, q, r⟩ := h; exact ⟨hl, vs, e.trans q, r.mono0 x⟩
  | dct kvs => obtain ⟨hl, vs, q, r, r'⟩ := h; exact ⟨hl, vs, e.trans q, r.mono0 x, r'.mono0 x⟩
  | ins c fs => obtain ⟨dx, vs, q, r, hl⟩ := h; exact ⟨dx, vs, e.trans q, r.mono0 x, hl⟩
  | dead => trivial

theorem RO.mono {a : Addr} {o : SO} (x : Ext w w') (e : w'.H a = w.H a) (h : RO T w a o) : RO T w' a o := h.mono0 x.toExt0 e

/-! ### steps of the world -/
/-- a new frozen object -/
def Wd.new (w : Wd) (p : Addr) (o : HO) : Wd := ⟨fun a => w.F a ∨ a = p, w.r, w.n, upd w.H p o, w.P⟩
theorem Wd.new_ext {p : Addr} {o : HO} {st : St} (s : RS' T w st) (hp : w.H p = none) : Ext w (w.new p o) :=
  ⟨⟨fun _ h => .inl h, fun a h => by
    obtain ⟨u, e⟩ := s.there a h
    exact upd_ne (ne_of_none e hp), fun _ _ => rfl, Nat.le_refl _⟩, fun a h => ⟨h, by
    obtain ⟨u, e⟩ := (s.pv a h).2.1
    exact upd_ne (ne_of_none e hp)⟩⟩
theorem RS'.new {p : Addr} {o : HO} {st : St} (s : RS' T w st) (hp : w.H p = none) : RS' T (w.new p o) st := by
  have x := Wd.new_ext (o := o) s hp
  refine ⟨s.len, fun i u e => ?_, s.apart, fun i u e hd hf => ?_, fun a hf => ?_, fun a h => ?_⟩
  · by_cases hd : u = .dead
    · subst hd; trivial
    · obtain ⟨q, hq⟩ := (s.ob i u e).there hd
      exact (s.ob i u e).mono x (upd_ne (ne_of_none hq hp))
  · rcases hf with hf | hf
    · exact s.free i u e hd hf
    · obtain ⟨q, hq⟩ := (s.ob i u e).there hd
      have e2 : w.r i = p := hf
      rw [e2, hp] at hq; cases hq
  · rcases hf with hf | hf
    · obtain ⟨u, e⟩ := s.there a hf
      exact ⟨u, (upd_ne (ne_of_none e hp)).trans e⟩
    · exact ⟨o, by rw [hf]; exact upd_same⟩
  · obtain ⟨h1, ⟨u, e⟩, h3⟩ := s.pv a h
    refine ⟨fun z => z.elim h1 fun z => ?_, ⟨u, (upd_ne (ne_of_none e hp)).trans e⟩, h3⟩
    rw [z, hp] at e; cases e
/-- a new object of the store -/
def Wd.put (w : Wd) (p : Addr) (o : HO) : Wd := ⟨w.F, fun i => if i = w.n then p else w.r i, w.n + 1, upd w.H p o, w.P⟩
theorem Wd.put_ext {p : Addr} {o : HO} {st : St} (s : RS' T w st) (hp : w.H p = none) : Ext w (w.put p o) :=
  ⟨⟨fun _ h => h, fun a h => by
    obtain ⟨u, e⟩ := s.there a h
    exact upd_ne (ne_of_none e hp), fun i h => if_neg (Nat.ne_of_lt h), Nat.le_succ _⟩, fun a h => ⟨h, by
    obtain ⟨u, e⟩ := (s.pv a h).2.1
    exact upd_ne (ne_of_none e hp)⟩⟩
theorem Wd.put_at {p : Addr} {o : HO} : (w.put p o).r w.n = p := if_pos rfl
theorem RS'.put {p : Addr} {o : HO} {st : St} {u : SO} (s : RS' T w st) (hp : w.H p = none) (hu : RO T (w.put p o) p u) : RS' T (w.put p o) (st ++ [u]) := by
  have x := Wd.put_ext (o := o) s hp
  have ne : ∀ (i : Nat) (o' : SO), st[i]? = some o' → o' ≠ .dead → w.r i ≠ p := fun i o' e hd z => by
    obtain ⟨q, hq⟩ := (s.ob i o' e).there hd
    rw [z, hp] at hq; cases hq
  have old : ∀ {i : Nat} {o' : SO}, (st ++ [u])[i]? = some o' → (i < st.length ∧ st[i]? = some o' ∧ (w.put p o).r i = w.r i) ∨ (i = st.length ∧ o' = u ∧ (w.put p o).r i = p) := fun {i o'} e => by
    by_cases h : i < st.length
    · rw [List.getElem?_append_left h] at e
      exact .inl ⟨h, e, if_neg (by rw [← s.len]; exact Nat.ne_of_lt h)⟩
    · rw [List.getElem?_append_right (by omega)] at e
      have h2 : i - st.length = 0 := by
        by_cases h3 : i - st.length = 0
        · exact h3
        · rw [List.getElem?_eq_none (by simp only [List.length_singleton]; omega)] at e; cases e
      rw [h2] at e
      have e' : u = o' := by simpa using e
      exact .inr ⟨by omega, e'.symm, if_pos (by rw [← s.len]; omega)⟩
  refine ⟨by simp [Wd.put, s.len], fun i o' e => ?_, fun i j o' u' e1 e2 d1 d2 er => ?_, fun i o' e hd hf => ?_, fun a hf => ?_, fun a h => ?_⟩
  · rcases old e with ⟨h, e, er⟩ | ⟨h, e, er⟩
    · rw [er]
      by_cases hd : o' = .dead
      · subst hd; trivial
      · exact (s.ob i o' e).mono x (upd_ne (ne i o' e hd))
    · rw [er, e]; exact hu
  · rcases old e1 with ⟨h1, e1, r1⟩ | ⟨h1, e1, r1⟩
    · rcases old e2 with ⟨h2, e2, r2⟩ | ⟨h2, e2, r2⟩
      · rw [r1, r2] at er; exact s.apart i j o' u' e1 e2 d1 d2 er
      · rw [r1, r2] at er; exact absurd er (ne i o' e1 d1)
    · rcases old e2 with ⟨h2, e2, r2⟩ | ⟨h2, e2, r2⟩
      · rw [r1, r2] at er; exact absurd er.symm (ne j u' e2 d2)
      · omega
  · rcases old e with ⟨h, e, er⟩ | ⟨h, e, er⟩
    · rw [er] at hf; exact s.free i o' e hd hf
    · rw [er] at hf
      obtain ⟨q, hq⟩ := s.there p hf
      rw [hp] at hq; cases hq
  · obtain ⟨q, e⟩ := s.there a hf
    exact ⟨q, (upd_ne (ne_of_none e hp)).trans e⟩
  · obtain ⟨h1, ⟨q, e⟩, h3⟩ := s.pv a h
    refine ⟨h1, ⟨q, (upd_ne (ne_of_none e hp)).trans e⟩, fun i o' e' hd => ?_⟩
    rcases old e' with ⟨hl, e', er⟩ | ⟨hl, e', er⟩
    · rw [er]; exact h3 i o' e' hd
    · rw [er]
      exact fun z => by rw [← z, hp] at e; cases e
/-- an object of the store is written -/
def Wd.wr (w : Wd) (p : Addr) (o : HO) : Wd := ⟨w.F, w.r, w.n, upd w.H p o, w.P⟩
theorem Wd.wr_ext {i : Nat} {o : HO} {st : St} {u : SO} (s : RS' T w st) (hi : st[i]? = some u) (hd : u ≠ .dead) : Ext w (w.wr (w.r i) o) :=
  ⟨⟨fun _ h => h, fun a h => upd_ne fun z => s.free i u hi hd (by rw [← z]; exact h), fun _ _ => rfl, Nat.le_refl _⟩, fun a h => ⟨h, upd_ne fun z => (s.pv a h).2.2 i u hi hd z.symm⟩⟩
theorem RS'.wr {i : Nat} {o : HO} {st : St} {u u' : SO} (s : RS' T w st) (hi : st[i]? = some u) (hd : u ≠ .dead) (hu : RO T (w.wr (w.r i) o) (w.r i) u') : RS' T (w.wr (w.r i) o) (st.set i u') := by
  have x := Wd.wr_ext (o := o) s hi hd
  have hlt : i < st.length := (List.getElem?_eq_some_iff.mp hi).1
  have old : ∀ {j : Nat} {o' : SO}, (st.set i u')[j]? = some o' → (j = i ∧ o' = u') ∨ (j ≠ i ∧ st[j]? = some o') := fun {j o'} e => by
    by_cases h : i = j
    · subst h
      rw [List.getElem?_set_self hlt] at e
      exact .inl ⟨rfl, (Option.some.inj e).symm⟩
    · rw [List.getElem?_set_ne h] at e
      exact .inr ⟨fun z => h z.symm, e⟩
  refine ⟨by simpa [Wd.wr] using s.len, fun j o' e => ?_, fun j k o' o'' e1 e2 d1 d2 er => ?_, fun j o' e hd' hf => ?_, fun a hf => ?_, fun a h => ?_⟩
  · rcases old e with ⟨rfl, rfl⟩ | ⟨hj, e⟩
    · exact hu
    · by_cases hd' : o' = .dead
      · subst hd'; trivial
      · exact (s.ob j o' e).mono x (upd_ne fun z => hj (s.apart j i o' u e hi hd' hd z))
  · have q : ∀ {j : Nat} {o' : SO}, (st.set i u')[j]? = some o' → o' ≠ .dead → ∃ o1, st[j]? = some o1 ∧ o1 ≠ .dead := fun {j o'} e d => by
      rcases old e with ⟨rfl, rfl⟩ | ⟨hj, e⟩
      · exact ⟨u, hi, hd⟩
      · exact ⟨o', e, d⟩
    obtain ⟨a1, a2, a3⟩ := q e1 d1
    obtain ⟨b1, b2, b3⟩ := q e2 d2
    exact s.apart j k a1 b1 a2 b2 a3 b3 er
  · rcases old e with ⟨rfl, rfl⟩ | ⟨hj, e⟩
    · exact s.free j u hi hd hf
    · exact s.free j o' e hd' hf
  · obtain ⟨q, e⟩ := s.there a hf
    exact ⟨q, (upd_ne fun z => s.free i u hi hd (by rw [← z]; exact hf)).trans e⟩
  · obtain ⟨h1, ⟨q, e⟩, h3⟩ := s.pv a h
    refine ⟨h1, ⟨q, (upd_ne fun z => h3 i u hi hd z.symm).trans e⟩, fun j o' e' hd' => ?_⟩
    rcases old e' with ⟨rfl, rfl⟩ | ⟨hj, e'⟩
    · exact h3 j u hi hd
    · exact h3 j o' e' hd'
/-- an object of the store is frozen -/
def Wd.ice (w : Wd) (p : Addr) : Wd := ⟨fun a => w.F a ∨ a = p, w.r, w.n, w.H, w.P⟩
theorem Wd.ice_ext {p : Addr} : Ext w (w.ice p) := ⟨⟨fun _ h => .inl h, fun _ _ => rfl, fun _ _ => rfl, Nat.le_refl _⟩, fun _ h => ⟨h, rfl⟩⟩
theorem RS'.ice {i : Nat} {st : St} {u : SO} (s : RS' T w st) (hi : st[i]? = some u) (hd : u ≠ .dead) : RS' T (w.ice (w.r i)) (st.set i .dead) := by
  have hlt : i < st.length := (List.getElem?_eq_some_iff.mp hi).1
  have old : ∀ {j : Nat} {o' : SO}, (st.set i .dead)[j]? = some o' → o' ≠ .dead → j ≠ i ∧ st[j]? = some o' := fun {j o'} e d => by
    by_cases h : i = j
    · subst h
      rw [List.getElem?_set_self hlt] at e
      exact absurd (Option.some.inj e).symm d
    · rw [List.getElem?_set_ne h] at e
      exact ⟨fun z => h z.symm, e⟩
  refine ⟨by simpa [Wd.ice] using s.len, fun j o' e => ?_, fun j k o' o'' e1 e2 d1 d2 er => ?_, fun j o' e hd' hf => ?_, fun a hf => ?_, fun a h => ?_⟩
  · by_cases hd' : o' = .dead
    · subst hd'; trivial
    · exact (s.ob j o' (old e hd').2).mono Wd.ice_ext rfl
  · exact s.apart j k o' o'' (old e1 d1).2 (old e2 d2).2 d1 d2 er
  · obtain ⟨hj, e⟩ := old e hd'
    rcases hf with hf | hf
    · exact s.free j o' e hd' hf
    · exact hj (s.apart j i o' u e hi hd' hd hf)
  · rcases hf with hf | hf
    · exact s.there a hf
    · rw [hf]; exact (s.ob i u hi).there hd
  · obtain ⟨h1, h2, h3⟩ := s.pv a h
    exact ⟨fun z => z.elim h1 fun z => h3 i u hi hd z.symm, h2, fun j o' e' hd' => h3 j o' (old e' hd').2 hd'⟩
/-- what stands behind a def that leaves nothing: its new objects are forgotten -/
theorem RS'.cut {st s : St} {w0 : Wd} (x : Ext w0 w) (h0 : RS' T w0 st) (h : RS' T w s) (e : s.take st.length = st) : RS' T (w.less w0.n) st ∧ Ext w0 (w.less w0.n) := by
  have get : ∀ {i : Nat} {o : SO}, st[i]? = some o → s[i]? = some o ∧ i < st.length := fun {i o} q => by
    have hi := (List.getElem?_eq_some_iff.mp q).1
    rw [← e, List.getElem?_take_of_lt hi] at q
    exact ⟨q, hi⟩
  refine ⟨⟨h0.len, fun i o q => ?_, fun i j o u q1 q2 => h.apart i j o u (get q1).1 (get q2).1, fun i o q => h.free i o (get q).1, h.there, fun a q => ⟨(h.pv a q).1, (h.pv a q).2.1, fun i o z => (h.pv a q).2.2 i o (get z).1⟩⟩, ⟨⟨x.f, x.h, x.r, Nat.le_refl _⟩, x.p⟩⟩
  have z := h.ob i o (get q).1
  have z0 := h0.ob i o q
  cases o with
  | lst xs =>
    obtain ⟨hl, vs, q1, r1⟩ := z
    obtain ⟨_, us, q2, r2⟩ := z0
    exact ⟨hl, vs, q1, r1.less r2.refB⟩
  | dct kvs =>
    obtain ⟨hl, vs, q1, r1, r1'⟩ := z
    obtain ⟨_, us, q2, r2, r2'⟩ := z0
    exact ⟨hl, vs, q1, r1.less r2.refB, r1'.less r2'.refB⟩
  | ins c fs =>
    obtain ⟨dx, vs, q1, r1, hl⟩ := z
    obtain ⟨_, us, q2, r2, _⟩ := z0
    exact ⟨dx, vs, q1, r1.less r2.refB, hl⟩
  | dead => trivial
end
end MP
set_option linter.all false
set_option maxRecDepth 100000
set_option maxHeartbeats 4000000
/-! M3: the syntax as the kit's, the judgements' readings by the interpreter. -/
namespace MP
open PySem PySem.Spec PyProof.Rows L2

/-! ### the kit's syntax -/
structure Nm where
  fn : Nat → Str
  cl : Nat → Str
  gl : Nat → Str
  fld : Nat → Str
  nC : Nat
  nGl : Nat
def Cst.py : Cst → Const
  | .non => .none | .bl b => .bool b | .int i => .int i | .str x => .str x
def BOp.py : BOp → Operator
  | .add => .Add | .sub => .Sub | .mul => .Mult | .fdiv => .FloorDiv | .mod => .Mod | .pow => .Pow
def COp.py : COp → CmpOp
  | .lt => .Lt | .le => .LtE | .gt => .Gt | .ge => .GtE | .eq => .Eq | .ne => .NotEq | .isN => .Is | .notN => .IsNot | .mem => .In | .nmem => .NotIn
def Bi.py : Bi → Str
  | .len => "len" | .abs => "abs" | .max2 => "max" | .min2 => "min" | .max1 => "max" | .min1 => "min" | .sum1 => "sum" | .int1 => "int" | .str1 => "str" | .tuple1 => "tuple" | .list1 => "list" | .gcd => "gcd" | .bool1 => "bool"
def Ty.py : Ty → Str
  | .int => "int" | .bool => "bool" | .str => "str" | .tuple => "tuple" | .list => "list"
def Bm.py : Bm → Str
  | .append => "append" | .index => "index" | .pop0 => "pop" | .clear => "clear" | .split1 => "split" | .join => "join" | .strip1 => "strip"
section
variable (nm : Nm) (N : List Str)
def slotN (i : Nat) : Str := N.getD i Str.empty
def Tg.py : Tg → Expr
  | .name p i => .Name (slotN N i) p
  | .tup p k ns => .Tuple (ns.map fun q => .Name (slotN N q.2) q.1) k p
mutual
def E.py : E → Expr
  | .cst p k c => .Constant c.py k p
  | .var p i => .Name (slotN N i) p
  | .glob p g => .Name (nm.gl g) p
  | .bin p _ o a b => .BinOp a.py o.py b.py p
  | .neg p a => .UnaryOp .USub a.py p
  | .not p a => .UnaryOp .Not a.py p
  | .and p es => .BoolOp .And es.py p
  | .or p es => .BoolOp .Or es.py p
  | .cmp p o a b => .Compare a.py [o.py] [b.py] p
  | .chain p o o' a b c => .Compare a.py [o.py, o'.py] [b.py, c.py] p
  | .ifx p t a b => .IfExp t.py a.py b.py p
  | .tup p k es => .Tuple es.py k p
  | .lst p _ es => .List es.py p
  | .dnew p => .Dict [] [] p
  | .idx p a i => .Subscript a.py i.py p
  | .slc p p2 _ a lo hi => .Subscript a.py (.Slice lo.py hi.py none p2) p
  | .rev p p2 k p3 p4 _ a => .Subscript a.py (.Slice none none (some (.UnaryOp .USub (.Constant (.int 1) k p4) p3)) p2) p
  | .call p q f es => .Call (.Name (nm.fn f) q) es.py [] p
  | .make p q c es => .Call (.Name (nm.cl c) q) es.py [] p
  | .bi p q b _ es => .Call (.Name b.py q) es.py [] p
  | .isin p q a q2 t => .Call (.Name "isinstance" q) [a.py, .Name t.py q2] [] p
  | .meth p ap o f es => .Call (.Attribute o.py (nm.fld f) ap) es.py [] p
  | .bm p ap b _ o es => .Call (.Attribute o.py b.py ap) es.py [] p
  | .attr p o f => .Attribute o.py (nm.fld f) p
  | .comp p _ sc _ elt tg it ifs => .ListComp elt.py [⟨tg.py N, it.py, ifs.py, 0⟩] sc p
  | .lrng p q p2 q2 _ a => .Call (.Name "list" q) [.Call (.Name "range" q2) [a.py] [] p2] [] p
  | .frz e => e.py
def O.py : O → Option Expr
  | .no => none
  | .yes e => some e.py
def Es.py : Es → List Expr
  | .nil => []
  | .cons e es => e.py :: es.py
def It.py : It → Expr
  | .rng1 p q a => .Call (.Name "range" q) [a.py] [] p
  | .rng2 p q a b => .Call (.Name "range" q) [a.py, b.py] [] p
  | .of e => e.py
end
def G.py : G → Expr
  | .name p i => .Name (slotN N i) p
  | .tup p k ns => .Tuple (ns.map fun q => .Name (slotN N q.2) q.1) k p
  | .sub p o i => .Subscript (o.py nm N) (i.py nm N) p
  | .attr p o f => .Attribute (o.py nm N) (nm.fld f) p
  | .subs p k gs => .Tuple (gs.map fun g => .Subscript (g.2.1.py nm N) (g.2.2.py nm N) g.1) k p
mutual
def S.py : S → Option Stmt
  | .asg p g e => some (.Assign [g.py nm N] (e.py nm N) p)
  | .par p p1 k px py i j p2 k2 a b => some (.Assign [.Tuple [.Name (slotN N i) px, .Name (slotN N j) py] k p1] (.Tuple [a.py nm N, b.py nm N] k2 p2) p)
  | .aug p p1 i e => some (.AugAssign (.Name (slotN N i) p1) .Add (e.py nm N) p)
  | .expr p e => some (.Expr (e.py nm N) p)
  | .ret p e => some (.Return (some (e.py nm N)) p)
  | .retN p => some (.Return none p)
  | .if_ p t a b => some (.If (t.py nm N) a.py b.py p)
  | .for_ p tg it b => some (.For (tg.py N) (it.py nm N) b.py [] p)
  | .while_ p t b => some (.While (t.py nm N) b.py [] p)
  | .raise p p2 q c es => some (.Raise (some (.Call (.Name (nm.cl c) q) (es.py nm N) [] p2)) none p)
  | .pass p => some (.Pass p)
  | .brk p => some (.Break p)
  | .cont p => some (.Continue p)
  | .try_ p b hs => some (.Try b.py hs.py [] [] p)
  | .frz _ => none
def Ss.py : Ss → List Stmt
  | .nil => []
  | .cons s ss => match s.py with
    | some x => x :: ss.py
    | none => ss.py
def Hs.py : Hs → List ExceptHandler
  | .nil => []
  | .cons p np c i b hs => .ExceptHandler (some (.Name (nm.cl c) np)) (i.map (slotN N)) b.py p :: hs.py
end
end

/-! ### what is wanted of a result -/
/-- an error's dict -/
def XRep (T : Tx) (xn : Nat → List Str) (w : Wd) (c : Nat) (as : List D) (fs : List (Str × V)) : Prop :=
  ∃ vs, RVs T w vs as ∧ ∀ (j : Nat) (f : Str), (xn c)[j]? = some f → ∃ v, vs[j]? = some v ∧ fs.lookup f = some v

/-- the text: how a program's data (P) are told in the kit's text -/
structure Tg' where
  T : Tx
  nm : Nm
  P : Pg
  xn : Nat → List Str
abbrev Rp (β α : Type) := Wd → β → α → Prop
def Po (T : Tg') {α β : Type} (rep : Rp β α) (w : Wd) (W : WX) (σ : L2.St) (Q : β → Hp → Prop) : Res α → Prop
  | .ok a st => ∀ w' b, Ext w w' → RS' T.T w' st → rep w' b a → Q b w'.H
  | .exc c as st => ∀ w' dd fs, Ext w w' → RS' T.T w' st → w'.H dd = some (.xd fs) → XRep T.T T.xn w' c as fs → W (.ref (T.T.ca c)) (some dd) σ w'.H
  | .bad => False
section
variable {T : Tg'} {α β γ δ : Type} {rep : Rp β α} {rep2 : Rp δ γ} {w w' : Wd} {W : WX} {σ : L2.St} {Q Q' : β → Hp → Prop} {R : δ → Hp → Prop}
theorem Po.ext {r : Res α} (x : Ext w w') (h : Po T rep w W σ Q r) : Po T rep w' W σ Q r := by
  cases r with
  | ok a st => exact fun w2 b y => h w2 b (x.trans y)
  | exc c as st => exact fun w2 dd fs y => h w2 dd fs (x.trans y)
  | bad => exact h
theorem Po.mono {r : Res α} (h : Po T rep w W σ Q r) (k : ∀ b H, Q b H → Q' b H) : Po T rep w W σ Q' r := by
  cases r with
  | ok a st => exact fun w2 b x s r => k _ _ (h w2 b x s r)
  | exc c as st => exact h
  | bad => exact h
/-- a reading by the interpreter -/
def tR (T : Tg') {α β : Type} (rep : Rp β α) (W : WX) (f : En → St → Res α) : L2.St → Hp → (β → Hp → Prop) → Prop := fun σ H Q =>
  ∃ w env st, w.H = H ∧ RS' T.T w st ∧ RE T.T w σ env ∧ Po T rep w W σ Q (f env st)
theorem tR.mono {f : En → St → Res α} {H : Hp} (h : tR T rep W f σ H Q) (k : ∀ b H, Q b H → Q' b H) : tR T rep W f σ H Q' := by
  obtain ⟨w, env, st, h1, h2, h3, p⟩ := h
  exact ⟨w, env, st, h1, h2, h3, p.mono k⟩
/-- what is known behind a part -/
structure Kn (T : Tg') {α β γ δ : Type} (rep : Rp β α) (rep2 : Rp δ γ) (w : Wd) (W : WX) (σ : L2.St) (env : En) (R : δ → Hp → Prop) (r : Res α) (k : α → St → Res γ) (b : β) (H : Hp) (w1 : Wd) (a : α) (st1 : St) : Prop where
  h : w1.H = H
  x : Ext w w1
  s : RS' T.T w1 st1
  e : RE T.T w1 σ env
  v : rep w1 b a
  q : r = .ok a st1
  p : Po T rep2 w1 W σ R (k a st1)
theorem tR_bind {f : En → St → Res α} {env : En} {st : St} {k : α → St → Res γ} (hs : RS' T.T w st) (he : RE T.T w σ env) (p : Po T rep2 w W σ R ((f env st).bind k)) :
    tR T rep W f σ w.H (fun b H => ∃ w1 a st1, Kn T rep rep2 w W σ env R (f env st) k b H w1 a st1) := by
  refine ⟨w, env, st, rfl, hs, he, ?_⟩
  cases e : f env st with
  | ok a s1 =>
    rw [e] at p
    exact fun w1 b x s r => ⟨w1, a, s1, rfl, x, s, he.mono x, r, rfl, Po.ext x p⟩
  | exc c as s1 =>
    rw [e] at p
    exact p
  | bad =>
    rw [e] at p
    exact p
end
theorem _root_.L2.PE.imp {X : Cx} {e : Expr} {t t' : TE} (h : PE X e t) (k : ∀ σ H Q, t' σ H Q → t σ H Q) : PE X e t' := ⟨fun pins s σ H Q I q => h.run pins s σ H Q I (k _ _ _ q)⟩
theorem _root_.L2.PT.imp {X : Cx} {e : Expr} {t t' : TT} (h : PT X e t) (k : ∀ σ H Q, t' σ H Q → t σ H Q) : PT X e t' := ⟨fun pins s σ H Q I q => h.run pins s σ H Q I (k _ _ _ q)⟩
theorem _root_.L2.PA.imp {X : Cx} {e : List Expr} {t t' : TA} (h : PA X e t) (k : ∀ σ H Q, t' σ H Q → t σ H Q) : PA X e t' := ⟨fun pos pins s σ H Q I q => h.run pos pins s σ H Q I (k _ _ _ q)⟩
theorem _root_.L2.PS.imp {X : Cx} {e : Stmt} {t t' : TS} (h : PS X e t) (k : ∀ D σ H, t' D σ H → t D σ H) : PS X e t' := ⟨fun pins s σ H D I q => h.run pins s σ H D I (k _ _ _ q)⟩
theorem _root_.L2.PSs.imp {X : Cx} {e : List Stmt} {t t' : TS} (h : PSs X e t) (k : ∀ D σ H, t' D σ H → t D σ H) : PSs X e t' := ⟨fun pins s σ H D I q => h.run pins s σ H D I (k _ _ _ q)⟩

/-! ### the context -/
/-- hot: in an except suite; fs: cells that are the block's own -/
structure Ho where
  h : Bool
  fs : Str → Bool
/-- a body's context. k: room for calls -/
structure XO (T : Tg') (N : List Str) (sc : Scope) (hot : Ho) (k : Nat) (X : Cx) : Prop where
  prog : X.prog = T.T.prog
  w : X.w = T.T.w
  K : X.K = T.T.K
  mg : X.mg = T.T.mg
  base : X.base = T.T.base
  xN : X.N = N
  sc : X.env.scope = sc
  nd : N.Nodup
  calm : hot.h = false → X.calm = true
  room : hot.h = false → Room k X.A
  units : X.A.units + 100 < cLine
  fn : X.fn = hot.fs
/-- an expression's meaning is the interpreter's -/
def SE (T : Tg') (N : List Str) (c : Cfg) (sc : Scope) (hot : Ho) (k : Nat) (e : E) : Prop :=
  ∀ X W, XO T N sc hot k X → L2N.Takes X W → PE X (e.py T.nm N) (tR T (fun w v d => RV T.T w v d) W (ev c e))
def SEs (T : Tg') (N : List Str) (c : Cfg) (sc : Scope) (hot : Ho) (k : Nat) (es : Es) : Prop :=
  ∀ X W, XO T N sc hot k X → L2N.Takes X W → PA X (es.py T.nm N) (tR T (fun w v d => RVs T.T w v d) W (evs c es))
def SO' (T : Tg') (N : List Str) (c : Cfg) (sc : Scope) (hot : Ho) (k : Nat) (o : O) : Prop :=
  ∀ X W, XO T N sc hot k X → L2N.Takes X W → PO X (o.py T.nm N) (tR T (fun _ (v : Option Int) d => v = d) W (evO c o))

section
variable {T : Tg'} {N : List Str} {c : Cfg} {sc : Scope} {hot : Ho} {k : Nat} {X : Cx} {W : WX}
/-! ### facts of the syntax -/
theorem py_starEach (e : E) (es : List Expr) (env : Env) : starEach (e.py T.nm N :: es) env = (false, eval (e.py T.nm N) env) :: starEach es env := by
  cases e
  case frz e => exact py_starEach e es env
  all_goals rfl
theorem py_plainIx (e : E) : PlainIx (e.py T.nm N) := by
  intro o i
  cases e
  case frz e => exact py_plainIx e o i
  all_goals rfl
def baseOk : E → Bool
  | .call _ _ _ .nil => false
  | .make _ _ _ .nil => false
  | .bi _ _ _ _ .nil => false
  | .frz e => baseOk e
  | _ => true
theorem py_base (e : E) (h : baseOk e = true) (f : Str) (env : Env) : attributeBase (e.py T.nm N) f env (eval (e.py T.nm N) env) = eval (e.py T.nm N) env := by
  cases e
  case frz e => exact py_base e h f env
  case call p q f es => cases es with
    | nil => cases h
    | cons e es => rfl
  case make p q f es => cases es with
    | nil => cases h
    | cons e es => rfl
  case bi p q f m es => cases es with
    | nil => cases h
    | cons e es => rfl
  all_goals rfl
theorem py_fold (e : E) (env : Env) (x : Value) : foldedSetIterable (e.py T.nm N) env x = pure x := by
  cases e
  case frz e => exact py_fold e env x
  all_goals rfl
theorem it_fold (e : It) (env : Env) (x : Value) : foldedSetIterable (e.py T.nm N) env x = pure x := by
  cases e <;> first | rfl | exact py_fold _ _ _
end
end MP
set_option linter.all false
set_option maxRecDepth 100000
set_option maxHeartbeats 4000000
/-! M4: the operations on values. -/
namespace MP
open PySem PySem.Spec PyProof.Rows L2

theorem lim_line : lim ≤ sizeLine := by rw [sizeLine_eq]; decide
section
variable {T : Tg'} {N : List Str} {c : Cfg} {sc : Scope} {hot : Bool} {k : Nat} {X : Cx} {W : WX} {w : Wd} {st : St}
abbrev RVp (T : Tg') : Rp V D := fun w v d => RV T.T w v d
/-- what an operation of the interpreter wants -/
def Ok1 (T : Tg') (w : Wd) (Q : VK) (r : Res D) : Prop := ∃ (W : WX) (σ : L2.St), (∀ a b c d, ¬ W a b c d) ∧ Po T (RVp T) w W σ Q r
/-- a list, wherever it stands -/
theorem lst_at {v : V} {d : D} {xs : List D} (hs : RS' T.T w st) (h : RV T.T w v d) (e : lstOf st d = some xs) : ∃ a vs, v = .ref a ∧ Rd w.H a (.lst vs) ∧ RVs T.T w vs xs ∧ xs.length ≤ lim := by
  cases h with
  | lst h hl r => cases e; exact ⟨_, _, rfl, h.1, r, hl⟩
  | @ref i h =>
    have e : (match st[i]? with
      | some (.lst xs) => some xs
      | _ => none) = some xs := e
    cases q : st[i]? with
    | none => rw [q] at e; cases e
    | some o =>
      rw [q] at e
      cases o with
      | lst ys =>
        cases e
        obtain ⟨hl, vs, h1, h2⟩ := hs.ob i _ q
        exact ⟨_, vs, rfl, .inl h1, h2, hl⟩
      | dct _ => cases e
      | ins _ _ => cases e
      | dead => cases e
  | non => cases e
  | bl b => cases e
  | int i => cases e
  | str h => cases e
  | tup h hl r => cases e
  | obj h hf r => cases e
theorem seq_at {v : V} {d : D} {xs : List D} (hs : RS' T.T w st) (h : RV T.T w v d) (e : seqOf st d = some xs) :
    ∃ a vs, v = .ref a ∧ (SqL T.T.K w.H a vs ∨ SqT T.T.K w.H a vs) ∧ RVs T.T w vs xs ∧ xs.length ≤ lim := by
  cases h with
  | tup h hl r => cases e; exact ⟨_, _, rfl, .inr h.1, r, hl⟩
  | lst h hl r => cases e; exact ⟨_, _, rfl, .inl h.sq, r, hl⟩
  | @ref i h =>
    obtain ⟨a, vs, h1, h2, h3, h4⟩ := lst_at (T := T) hs (.ref h) (show lstOf st (.ref i) = some xs from e)
    exact ⟨a, vs, h1, .inl (.inl h2), h3, h4⟩
  | non => cases e
  | bl b => cases e
  | int i => cases e
  | str h => cases e
  | obj h hf r => cases e
/-- a new list: frozen, or of the store -/
theorem mk_list {m : Bool} {xs : List D} {vs : List V} {Q : VK} (hs : RS' T.T w st) (r : RVs T.T w vs xs) (hl : xs.length ≤ lim) (h : Ok1 T w Q (mkL m xs st)) : ∀ p, w.H p = none → Q (.ref p) (upd w.H p (.lst vs)) := by
  intro p hp
  obtain ⟨W, σ, _, h⟩ := h
  cases m with
  | false => exact h (w.new p (.lst vs)) _ (Wd.new_ext hs hp) (hs.new hp) (.lst ⟨.inl upd_same, .inr rfl⟩ hl (r.mono (Wd.new_ext hs hp)))
  | true =>
    have x := Wd.put_ext (o := .lst vs) hs hp
    have e : (.ref st.length : D) = .ref w.n := by rw [hs.len]
    have h' : Po T (RVp T) w W σ Q (.ok (.ref st.length) (st ++ [.lst xs])) := h
    rw [e] at h'
    refine h' (w.put p (.lst vs)) (.ref p) x (hs.put hp ⟨hl, vs, upd_same, r.mono x⟩) ?_
    have q : RV T.T (w.put p (.lst vs)) (.ref ((w.put p (.lst vs)).r w.n)) (.ref w.n) := .ref (Nat.lt_succ_self _)
    rw [Wd.put_at] at q
    exact q
theorem mk_tup {xs : List D} {vs : List V} {Q : VK} (hs : RS' T.T w st) (r : RVs T.T w vs xs) (hl : xs.length ≤ lim) (h : Ok1 T w Q (.ok (.tup xs) st)) : ∀ p, w.H p = none → Q (.ref p) (upd w.H p (.tup vs)) := by
  intro p hp
  obtain ⟨W, σ, _, h⟩ := h
  exact h (w.new p (.tup vs)) _ (Wd.new_ext hs hp) (hs.new hp) (.tup ⟨.inl (.inl upd_same), .inl (.inr rfl)⟩ hl (r.mono (Wd.new_ext hs hp)))
/-- a value as it is -/
theorem ok_val {d : D} {v : V} {Q : VK} (hs : RS' T.T w st) (r : RV T.T w v d) (h : Ok1 T w Q (.ok d st)) : Q v w.H := by
  obtain ⟨W, σ, _, h⟩ := h
  exact h w v (Ext.refl w) hs r
theorem no_bad {Q : VK} (h : Ok1 T w Q .bad) : False := by
  obtain ⟨W, σ, _, h⟩ := h
  exact h

/-- list + list, of any kind that is read -/
theorem op_catS : OpR X (binaryOp .Add) (fun x y H Q => ∃ l b xs zs, x = .ref l ∧ y = .ref b ∧ Rd H l (.lst xs) ∧ Rd H b (.lst zs) ∧ xs.length + zs.length ≤ sizeLine ∧ ∀ p, H p = none → Q (.ref p) (upd H p (.lst (xs ++ zs)))) := by
  intro pins s σ H x y v u Q I rx ry h
  obtain ⟨l, b, xs, zs, rfl, rfl, hH, hB, hz, q⟩ := h
  cases rx
  cases ry
  obtain ⟨z, its, n, r, e⟩ := hH.ok I.hok
  obtain ⟨z2, its2, n2, r2, e2⟩ := hB.ok I.hok
  have l1 := r.length
  have l2 := r2.length
  refine PySem.P.add_list e e2 ?_ (by rw [List.size_toArray, List.size_toArray]; omega)
  have ea : its.toArray ++ its2.toArray = (its ++ its2).toArray := by simp
  rw [ea]
  exact ⟨.ref _, _, I.lnew (t' := s.toks) (r.append r2) (by rw [List.length_append]; omega), rfl, q _ I.fresh⟩

/-- what a two-place operation asks -/
def rB (T : Tg') (f : D → D → St → Res D) : R2 := fun x y H Q => ∃ w d1 d2 st, w.H = H ∧ RS' T.T w st ∧ RV T.T w x d1 ∧ RV T.T w y d2 ∧ Ok1 T w Q (f d1 d2 st)
theorem op_sub' {m : Bool} : OpR X (binaryOp .Sub) (rB T (binD .sub m)) := by
  intro pins s σ H x y v u Q I rx ry ⟨w, d1, d2, st, e, hs, h1, h2, p⟩
  subst e
  cases h1 with
  | int i => cases h2 with
    | int j => exact op_sub pins s σ _ _ _ v u Q I rx ry ⟨i, j, rfl, rfl, ok_val hs (.int _) p⟩
    | _ => exact (no_bad p).elim
  | _ => exact (no_bad p).elim
theorem op_add' (hK : X.K = T.T.K) {m : Bool} : OpR X (binaryOp .Add) (rB T (binD .add m)) := by
  intro pins s σ H x y v u Q I rx ry ⟨w, d1, d2, st, e, hs, h1, h2, p⟩
  subst e
  have lists : ∀ {d1 d2 : D}, RV T.T w x d1 → RV T.T w y d2 → Ok1 T w Q (match lstOf st d1, lstOf st d2 with
    | some xs, some ys => if xs.length + ys.length ≤ lim then mkL m (xs ++ ys) st else .bad
    | _, _ => .bad) → wpAny (model X.prog X.w) X.A (binaryOp .Add v u) (EP X pins σ Q) X.xe s := by
    intro d1 d2 h1 h2 p
    cases e1 : lstOf st d1 with
    | none => rw [e1] at p; exact (no_bad p).elim
    | some xs =>
      cases e2 : lstOf st d2 with
      | none => rw [e1, e2] at p; exact (no_bad p).elim
      | some ys =>
        rw [e1, e2] at p
        dsimp only at p
        obtain ⟨a, vs, rfl, g1, g2, g3⟩ := lst_at hs h1 e1
        obtain ⟨b, us, rfl, k1, k2, k3⟩ := lst_at hs h2 e2
        by_cases hl : xs.length + ys.length ≤ lim
        · rw [if_pos hl] at p
          refine op_catS pins s σ _ _ _ v u Q I rx ry ⟨a, b, vs, us, rfl, rfl, g1, k1, ?_, ?_⟩
          · rw [g2.length, k2.length]; exact Nat.le_trans hl lim_line
          · exact mk_list hs (g2.append k2) (by rw [List.length_append]; exact hl) p
        · rw [if_neg hl] at p; exact (no_bad p).elim
  cases h1 with
  | int i => cases h2 with
    | int j => exact op_add pins s σ _ _ _ v u Q I rx ry ⟨i, j, rfl, rfl, ok_val hs (.int _) p⟩
    | _ => exact (no_bad p).elim
  | @str z hz => cases h2 with
    | @str y hy =>
      by_cases hl : z.length + y.length ≤ lim
      · have p' : Ok1 T w Q (if z.length + y.length ≤ lim then .ok (.str (z ++ y)) st else .bad) := p
        rw [if_pos hl] at p'
        refine op_add_str pins s σ _ _ _ v u Q I rx ry ⟨z, y, rfl, rfl, Nat.le_trans hl lim_line, ok_val hs (.str ⟨?_, ?_⟩) p'⟩
        · rw [strLen_append]; exact hl
        · have a := hz.2
          have b := hy.2
          unfold PyData.strOk at a b ⊢
          show (z.cps ++ y.cps).all (· < 0x110000) = true
          rw [Array.all_append, a, b]; rfl
      · have p' : Ok1 T w Q (if z.length + y.length ≤ lim then .ok (.str (z ++ y)) st else .bad) := p
        rw [if_neg hl] at p'
        exact (no_bad p').elim
    | _ => exact (no_bad p).elim
  | @tup a vs xs h hl r => cases h2 with
    | @tup b us ys h' hl' r' =>
      by_cases hl2 : xs.length + ys.length ≤ lim
      · have p' : Ok1 T w Q (if xs.length + ys.length ≤ lim then .ok (.tup (xs ++ ys)) st else .bad) := p
        rw [if_pos hl2] at p'
        refine op_catA pins s σ _ _ _ v u Q I rx ry ⟨a, b, vs, us, rfl, rfl, by rw [hK]; exact h.1, by rw [hK]; exact h'.1, by rw [r.length, r'.length]; exact Nat.le_trans hl2 lim_line, ?_⟩
        refine ⟨fun e => ?_, fun _ e => ?_, fun _ _ => mk_tup hs (r.append r') (by rw [List.length_append]; exact hl2) p'⟩
        · subst e
          cases r
          exact ok_val hs (.tup h' hl' r') p'
        · subst e
          cases r'
          rw [List.append_nil] at p'
          exact ok_val hs (.tup h hl r) p'
      · have p' : Ok1 T w Q (if xs.length + ys.length ≤ lim then .ok (.tup (xs ++ ys)) st else .bad) := p
        rw [if_neg hl2] at p'
        exact (no_bad p').elim
    | _ => exact (no_bad p).elim
  | @lst a vs xs h hl r => exact lists (.lst h hl r) h2 p
  | @ref i h => exact lists (.ref h) h2 p
  | non => exact lists (d1 := .non) .non h2 p
  | bl b => exact lists (d1 := .bl b) (.bl b) h2 p
  | @obj a dx c vs fs h hf r => exact lists (d1 := .obj c fs) (.obj h hf r) h2 p
theorem op_mul' {m : Bool} : OpR X (binaryOp .Mult) (rB T (binD .mul m)) := by
  intro pins s σ H x y v u Q I rx ry ⟨w, d1, d2, st, e, hs, h1, h2, p⟩
  subst e
  cases h1 with
  | int i => cases h2 with
    | int j =>
      by_cases hm : MulOk i j
      · have p' : Ok1 T w Q (if MulOk i j then .ok (.int (i * j)) st else .bad) := p
        rw [if_pos hm] at p'
        obtain ⟨t, rfl⟩ := rx
        obtain ⟨t', rfl⟩ := ry
        refine mul_int ⟨.int _, w.H, I.tok _, ⟨_, rfl⟩, ok_val hs (.int _) p'⟩ ?_
        have b : ∀ x : Int, Builtin.Int.intBits x ≤ x.natAbs.log2 + 1 := fun x => by
          unfold Builtin.Int.intBits
          split <;> omega
        have h1 := b i
        have h2 := b j
        have h3 : i.natAbs.log2 + j.natAbs.log2 < 60000000 := hm
        have e : bitsLine = 134217728 := by decide
        unfold IntMulOk
        intro z
        rw [Bool.and_eq_true] at z
        have z2 := z.2
        unfold Builtin.Int.intTooBig at z2
        have z3 := of_decide_eq_true z2
        rw [e] at z3
        omega
      · have p' : Ok1 T w Q (if MulOk i j then .ok (.int (i * j)) st else .bad) := p
        rw [if_neg hm] at p'
        exact (no_bad p').elim
    | _ => exact (no_bad p).elim
  | _ => exact (no_bad p).elim
theorem op_fdiv' {m : Bool} : OpR X (binaryOp .FloorDiv) (rB T (binD .fdiv m)) := by
  intro pins s σ H x y v u Q I rx ry ⟨w, d1, d2, st, e, hs, h1, h2, p⟩
  subst e
  cases h1 with
  | int i => cases h2 with
    | int j =>
      by_cases hm : DivOk j
      · have p' : Ok1 T w Q (if DivOk j then .ok (.int (i.fdiv j)) st else .bad) := p
        rw [if_pos hm] at p'
        obtain ⟨t, rfl⟩ := rx
        obtain ⟨t', rfl⟩ := ry
        exact floordiv_int hm.1 ⟨.int _, w.H, I.tok _, ⟨_, rfl⟩, ok_val hs (.int _) p'⟩ (.inl (PyProof.noPylong_of_log2 hm.2))
      · have p' : Ok1 T w Q (if DivOk j then .ok (.int (i.fdiv j)) st else .bad) := p
        rw [if_neg hm] at p'
        exact (no_bad p').elim
    | _ => exact (no_bad p).elim
  | _ => exact (no_bad p).elim
theorem op_mod' {m : Bool} : OpR X (binaryOp .Mod) (rB T (binD .mod m)) := by
  intro pins s σ H x y v u Q I rx ry ⟨w, d1, d2, st, e, hs, h1, h2, p⟩
  subst e
  cases h1 with
  | int i => cases h2 with
    | int j =>
      by_cases hm : j ≠ 0
      · have p' : Ok1 T w Q (if j ≠ 0 then .ok (.int (i.fmod j)) st else .bad) := p
        rw [if_pos hm] at p'
        exact op_modN pins s σ _ _ _ v u Q I rx ry ⟨i, j, rfl, rfl, hm, ok_val hs (.int _) p'⟩
      · have p' : Ok1 T w Q (if j ≠ 0 then .ok (.int (i.fmod j)) st else .bad) := p
        rw [if_neg hm] at p'
        exact (no_bad p').elim
    | _ => exact (no_bad p).elim
  | _ => exact (no_bad p).elim
theorem op_pow' {m : Bool} : OpR X (binaryOp .Pow) (rB T (binD .pow m)) := by
  intro pins s σ H x y v u Q I rx ry ⟨w, d1, d2, st, e, hs, h1, h2, p⟩
  subst e
  cases h1 with
  | int i => cases h2 with
    | int j =>
      by_cases hm : 0 ≤ j ∧ j ≤ 100 ∧ i.natAbs < 2 ^ 64
      · have p' : Ok1 T w Q (if 0 ≤ j ∧ j ≤ 100 ∧ i.natAbs < 2 ^ 64 then .ok (.int (i ^ j.toNat)) st else .bad) := p
        rw [if_pos hm] at p'
        exact op_pow pins s σ _ _ _ v u Q I rx ry ⟨i, j, rfl, rfl, ⟨hm.1, by have := hm.2.1; omega, hm.2.2⟩, ok_val hs (.int _) p'⟩
      · have p' : Ok1 T w Q (if 0 ≤ j ∧ j ≤ 100 ∧ i.natAbs < 2 ^ 64 then .ok (.int (i ^ j.toNat)) st else .bad) := p
        rw [if_neg hm] at p'
        exact (no_bad p').elim
    | _ => exact (no_bad p).elim
  | _ => exact (no_bad p).elim
theorem op_bin (hK : X.K = T.T.K) (o : BOp) {m : Bool} : OpR X (binaryOp o.py) (rB T (binD o m)) := by
  cases o
  · exact op_add' hK
  · exact op_sub'
  · exact op_mul'
  · exact op_fdiv'
  · exact op_mod'
  · exact op_pow'
end
end MP
set_option linter.all false
set_option maxRecDepth 100000
set_option maxHeartbeats 4000000
/-! M5: comparisons, subscripts, built-ins on values. -/
namespace MP
open PySem PySem.Spec PyProof.Rows L2
section
variable {T : Tg'} {N : List Str} {c : Cfg} {sc : Scope} {hot : Bool} {k : Nat} {X : Cx} {W : WX} {w : Wd} {st : St}

/-! ### as data -/
theorem mapM_some {α β : Type} {f : α → Option β} : ∀ {xs : List α} {ys : List β}, xs.mapM f = some ys → (xs = [] ∧ ys = []) ∨ ∃ x xs' y ys', xs = x :: xs' ∧ ys = y :: ys' ∧ f x = some y ∧ xs'.mapM f = some ys'
  | [], ys, e => by
    have e' : (some [] : Option (List β)) = some ys := by simpa using e
    cases e'; exact .inl ⟨rfl, rfl⟩
  | x :: xs, ys, e => by
    rw [List.mapM_cons] at e
    cases q : f x with
    | none => rw [q] at e; cases e
    | some y =>
      rw [q] at e
      cases q2 : xs.mapM f with
      | none => rw [q2] at e; cases e
      | some zs =>
        rw [q2] at e
        have e' : (some (y :: zs) : Option (List β)) = some ys := e
        cases e'
        exact .inr ⟨x, xs, y, zs, rfl, rfl, q, q2⟩
def Dat (T : Tg') (w : Wd) (k : Nat) (v : V) (pd : PyData) : Prop := Dp T.T.K w.H v pd ∧ pd.canLay0 = true ∧ pd.depth ≤ k
def Dats (T : Tg') (w : Wd) (k : Nat) (vs : List V) (ps : List PyData) : Prop := DpAll T.T.K w.H vs ps ∧ PyData.canLayAll0 ps = true ∧ PyData.depthAll ps ≤ k
theorem dats_of (hs : RS' T.T w st) {k : Nat} (ih : ∀ d v pd, pyd st k d = some pd → RV T.T w v d → Dat T w k v pd) : ∀ {xs : List D} {vs : List V} {ps : List PyData}, xs.mapM (pyd st k) = some ps → RVs T.T w vs xs → Dats T w k vs ps
  | xs, vs, ps, e, r => by
    rcases mapM_some e with ⟨rfl, rfl⟩ | ⟨x, xs', y, ys', rfl, rfl, e1, e2⟩
    · cases r
      exact ⟨.nil, rfl, Nat.zero_le _⟩
    · cases r with
      | cons h r =>
        obtain ⟨a1, a2, a3⟩ := ih _ _ _ e1 h
        obtain ⟨b1, b2, b3⟩ := dats_of hs ih e2 r
        refine ⟨.cons a1 b1, ?_, ?_⟩
        · rw [PyData.canLayAll0, a2, b2]; rfl
        · rw [PyData.depthAll]; exact Nat.max_le.mpr ⟨a3, b3⟩
theorem dat_of (hs : RS' T.T w st) : ∀ (k : Nat) (d : D) (v : V) (pd : PyData), pyd st k d = some pd → RV T.T w v d → Dat T w k v pd := by
  intro k
  induction k with
  | zero =>
    intro d v pd e r
    cases r with
    | non => cases e; exact ⟨.non, rfl, Nat.le_refl _⟩
    | bl b => cases e; exact ⟨.bl b, rfl, Nat.le_refl _⟩
    | int i => cases e; exact ⟨.int i, rfl, Nat.le_refl _⟩
    | str h => cases e; exact ⟨.str _, h.2, Nat.le_refl _⟩
    | _ => cases e
  | succ k ih =>
    intro d v pd e r
    have lists : ∀ {a : Addr} {vs : List V} {xs : List D}, SqL T.T.K w.H a vs → RVs T.T w vs xs → (xs.mapM (pyd st k)).map PyData.list = some pd → Dat T w (k + 1) (.ref a) pd := by
      intro a vs xs h r e
      cases q : xs.mapM (pyd st k) with
      | none => rw [q] at e; cases e
      | some ps =>
        rw [q] at e
        cases e
        obtain ⟨b1, b2, b3⟩ := dats_of hs ih q r
        exact ⟨.lst h b1, by rw [PyData.canLay0]; exact b2, by rw [PyData.depth]; omega⟩
    cases r with
    | non => cases e; exact ⟨.non, rfl, Nat.zero_le _⟩
    | bl b => cases e; exact ⟨.bl b, rfl, Nat.zero_le _⟩
    | int i => cases e; exact ⟨.int i, rfl, Nat.zero_le _⟩
    | str h => cases e; exact ⟨.str _, h.2, Nat.zero_le _⟩
    | @tup a vs xs h hl r =>
      have e' : (xs.mapM (pyd st k)).map PyData.tuple = some pd := e
      cases q : xs.mapM (pyd st k) with
      | none => rw [q] at e'; cases e'
      | some ps =>
        rw [q] at e'
        cases e'
        obtain ⟨b1, b2, b3⟩ := dats_of hs ih q r
        exact ⟨.tup h.1 b1, by rw [PyData.canLay0]; exact b2, by rw [PyData.depth]; omega⟩
    | lst h hl r => exact lists h.sq r e
    | obj h hf r => cases e
    | @ref i h =>
      have e' : (match st[i]? with
        | some (.lst xs) => (xs.mapM (pyd st k)).map .list
        | _ => none) = some pd := e
      cases q : st[i]? with
      | none => rw [q] at e'; cases e'
      | some o =>
        rw [q] at e'
        cases o with
        | lst xs =>
          obtain ⟨hl, vs, h1, h2⟩ := hs.ob i _ q
          exact lists (.inl (.inl h1)) h2 e'
        | _ => cases e'
theorem shaped_of {v : V} {pd : PyData} {k : Nat} (h : Dat T w k v pd) (hk : k ≤ 64) : SeqAt.shaped pd = true := by
  unfold SeqAt.shaped
  rw [h.2.1, Bool.true_and]
  exact decide_eq_true (Nat.le_trans h.2.2 hk)
theorem eqD_of {d1 d2 : D} {x y : V} {b : Bool} (hs : RS' T.T w st) (h1 : RV T.T w x d1) (h2 : RV T.T w y d2) (e : eqD st d1 d2 = some b) :
    ∃ p q, Dp T.T.K w.H x p ∧ Dp T.T.K w.H y q ∧ SeqAt.shaped p = true ∧ SeqAt.shaped q = true ∧ b = PyData.eqv p q := by
  unfold eqD at e
  cases e1 : pyd st 12 d1 with
  | none => rw [e1] at e; cases e
  | some p =>
    rw [e1, Option.bind_some] at e
    cases e2 : pyd st 12 d2 with
    | none => rw [e2] at e; cases e
    | some q =>
      rw [e2] at e
      cases e
      have a := dat_of hs _ _ _ _ e1 h1
      have b := dat_of hs _ _ _ _ e2 h2
      exact ⟨p, q, a.1, b.1, shaped_of a (by decide), shaped_of b (by decide), rfl⟩

/-! ### flat things -/
theorem flat_of {v : V} {d : D} (h : RV T.T w v d) : flatV v = flat d := by cases h <;> rfl
theorem flats_of : ∀ {vs : List V} {ds : List D}, RVs T.T w vs ds → vs.all flatV = ds.all flat
  | _, _, .nil => rfl
  | _, _, .cons h r => by rw [List.all_cons, List.all_cons, flat_of h, flats_of r]
theorem eqF_of {v u : V} {d e : D} (h : RV T.T w v d) (h' : RV T.T w u e) : eqV v u = eqF d e := by
  have b2 : ∀ a b : Int, (a == b) = decide (a = b) := fun a b => by rw [Bool.eq_iff_iff]; simp
  have b3 : ∀ a b : Str, (a == b) = decide (a = b) := fun a b => by rw [Bool.eq_iff_iff]; simp
  cases h <;> cases h' <;> first | rfl | exact b2 _ _ | exact b3 _ _
theorem any_of {x : V} {d : D} (h : RV T.T w x d) : ∀ {vs : List V} {ds : List D}, RVs T.T w vs ds → inV x vs = ds.any fun z => eqF z d
  | _, _, .nil => rfl
  | _, _, .cons q r => by
    have ih := any_of h r
    unfold inV at ih ⊢
    rw [List.any_cons, List.any_cons, eqF_of q h, ih]

/-! ### comparisons -/
def rC (T : Tg') (o : COp) : R2 := fun x y H Q => ∃ w d1 d2 st b, w.H = H ∧ RS' T.T w st ∧ RV T.T w x d1 ∧ RV T.T w y d2 ∧ cmpD st o d1 d2 = some b ∧ Q (.bl b) H
theorem mem_of (hs : RS' T.T w st) {x y : V} {d1 d2 : D} {b : Bool} (h1 : RV T.T w x d1) (h2 : RV T.T w y d2) (e : memD st d1 d2 = some b) :
    (∃ s t, x = .str s ∧ y = .str t ∧ b = !(Builtin.Str.occurrences t s 0 t.length 1).isEmpty) ∨
    (∃ p xs, y = .ref p ∧ (SqL T.T.K w.H p xs ∨ SqT T.T.K w.H p xs) ∧ flatV x = true ∧ xs.all flatV = true ∧ b = inV x xs) := by
  have seqs : ∀ {p : Addr} {vs : List V} {xs : List D}, (SqL T.T.K w.H p vs ∨ SqT T.T.K w.H p vs) → RVs T.T w vs xs → (if flat d1 && xs.all flat then some (xs.any fun z => eqF z d1) else none) = some b →
      ∃ q us, V.ref p = .ref q ∧ (SqL T.T.K w.H q us ∨ SqT T.T.K w.H q us) ∧ flatV x = true ∧ us.all flatV = true ∧ b = inV x us := by
    intro p vs xs hq r e
    by_cases hf : (flat d1 && xs.all flat) = true
    · rw [if_pos hf] at e
      rw [Bool.and_eq_true] at hf
      cases e
      exact ⟨p, vs, rfl, hq, (flat_of h1).trans hf.1, (flats_of r).trans hf.2, (any_of h1 r).symm⟩
    · rw [if_neg hf] at e; cases e
  cases h2 with
  | @str t ht => cases h1 with
    | @str z hz => cases e; exact .inl ⟨_, _, rfl, rfl, rfl⟩
    | _ => cases e
  | tup h hl r => exact .inr (seqs (.inr h.1) r e)
  | lst h hl r => exact .inr (seqs (.inl h.sq) r e)
  | @ref i h =>
    have e' : (match st[i]? with
      | some (.lst xs) => if flat d1 && xs.all flat then some (xs.any fun z => eqF z d1) else none
      | _ => none) = some b := e
    cases q : st[i]? with
    | none => rw [q] at e'; cases e'
    | some o =>
      rw [q] at e'
      cases o with
      | lst xs =>
        obtain ⟨hl, vs, h1, h2⟩ := hs.ob i _ q
        exact .inr (seqs (.inl (.inl (.inl h1))) h2 e')
      | _ => cases e'
  | _ => cases e
theorem op_cmp (hK : X.K = T.T.K) (hu : X.A.units + 64 < cLine) (o : COp) : OpR X (compareOp o.py) (rC T o) := by
  intro pins s σ H x y v u Q I rx ry ⟨w, d1, d2, st, b, e, hs, h1, h2, hb, q⟩
  subst e
  cases o with
  | lt => cases h1 with
    | int i => cases h2 with
      | int j => cases hb; exact op_lt pins s σ _ _ _ v u Q I rx ry ⟨i, j, rfl, rfl, q⟩
      | _ => cases hb
    | _ => cases hb
  | le => cases h1 with
    | int i => cases h2 with
      | int j => cases hb; exact op_le pins s σ _ _ _ v u Q I rx ry ⟨i, j, rfl, rfl, q⟩
      | _ => cases hb
    | _ => cases hb
  | gt => cases h1 with
    | int i => cases h2 with
      | int j => cases hb; exact op_gt pins s σ _ _ _ v u Q I rx ry ⟨i, j, rfl, rfl, q⟩
      | _ => cases hb
    | _ => cases hb
  | ge => cases h1 with
    | int i => cases h2 with
      | int j => cases hb; exact op_ge pins s σ _ _ _ v u Q I rx ry ⟨i, j, rfl, rfl, q⟩
      | _ => cases hb
    | _ => cases hb
  | eq =>
    obtain ⟨p, q', a1, a2, a3, a4, rfl⟩ := eqD_of hs h1 h2 hb
    exact op_eqD hu pins s σ _ _ _ v u Q I rx ry ⟨p, q', by rw [hK]; exact a1, by rw [hK]; exact a2, a3, a4, q⟩
  | ne =>
    have hb' : (eqD st d1 d2).map (!·) = some b := hb
    cases e : eqD st d1 d2 with
    | none => rw [e] at hb'; cases hb'
    | some b' =>
      rw [e] at hb'
      cases hb'
      obtain ⟨p, q', a1, a2, a3, a4, rfl⟩ := eqD_of hs h1 h2 e
      exact op_neD hu pins s σ _ _ _ v u Q I rx ry ⟨p, q', by rw [hK]; exact a1, by rw [hK]; exact a2, a3, a4, q⟩
  | isN => cases h2 with
    | non =>
      refine op_isN pins s σ _ _ _ v u Q I rx ry ⟨rfl, ?_⟩
      cases h1 <;> (cases hb; exact q)
    | _ => cases hb
  | notN => cases h2 with
    | non =>
      refine op_notN pins s σ _ _ _ v u Q I rx ry ⟨rfl, ?_⟩
      cases h1 <;> (cases hb; exact q)
    | _ => cases hb
  | mem =>
    rcases mem_of hs h1 h2 hb with ⟨s', t, rfl, rfl, rfl⟩ | ⟨p, xs, rfl, hq, f1, f2, rfl⟩
    · exact op_in_str pins s σ _ _ _ v u Q I rx ry ⟨_, _, rfl, rfl, q⟩
    · exact op_in_seq pins s σ _ _ _ v u Q I rx ry ⟨p, xs, rfl, by rw [hK]; exact hq, f1, f2, q⟩
  | nmem =>
    have hb' : (memD st d1 d2).map (!·) = some b := hb
    cases e : memD st d1 d2 with
    | none => rw [e] at hb'; cases hb'
    | some b' =>
      rw [e] at hb'
      cases hb'
      rcases mem_of hs h1 h2 e with ⟨s', t, rfl, rfl, rfl⟩ | ⟨p, xs, rfl, hq, f1, f2, rfl⟩
      · exact op_notin_str pins s σ _ _ _ v u Q I rx ry ⟨_, _, rfl, rfl, q⟩
      · exact op_notIn_seq pins s σ _ _ _ v u Q I rx ry ⟨p, xs, rfl, by rw [hK]; exact hq, f1, f2, q⟩
/-! ### subscripts -/
theorem atI_of {vs : List V} {ds : List D} {i : Int} {d : D} (r : RVs T.T w vs ds) (e : atI ds i = some d) : ∃ v, atI vs i = some v ∧ RV T.T w v d := by
  unfold atI at e ⊢
  rw [r.length]
  cases q : ixN ds.length i with
  | none => rw [q] at e; cases e
  | some j =>
    rw [q, Option.bind_some] at e
    exact r.get e
def rI' (T : Tg') : R2 := fun x y H Q => ∃ w d1 d2 st d, w.H = H ∧ RS' T.T w st ∧ RV T.T w x d1 ∧ RV T.T w y d2 ∧ idxD st d1 d2 = some d ∧ ∀ v, RV T.T w v d → Q v H
theorem ix_any (hK : X.K = T.T.K) : IxR X (rI' T) := by
  intro value slice pins s σ H x y v u Q I rx ry ⟨w, d1, d2, st, d, e, hs, h1, h2, hb, q⟩ hsub
  subst e
  cases h1 with
  | @tup a vs xs h hl r => cases h2 with
    | int i =>
      obtain ⟨z, e1, e2⟩ := atI_of r hb
      exact ix_tup value slice pins s σ _ _ _ v u Q I rx ry ⟨a, vs, i, z, rfl, rfl, by rw [hK]; exact h.1, e1, q z e2⟩ hsub
    | _ => cases hb
  | @lst a vs xs h hl r => cases h2 with
    | int i =>
      obtain ⟨z, e1, e2⟩ := atI_of r hb
      exact ix_list value slice pins s σ _ _ _ v u Q I rx ry ⟨a, vs, i, z, rfl, rfl, by rw [hK]; exact h.sq, e1, q z e2⟩ hsub
    | _ => cases hb
  | @str z hz => cases h2 with
    | int i =>
      have hb' : (atI z.cps.toList i).map (fun c => D.str ⟨#[c]⟩) = some d := hb
      cases e : atI z.cps.toList i with
      | none => rw [e] at hb'; cases hb'
      | some c =>
        rw [e] at hb'
        cases hb'
        refine ix_str value slice pins s σ _ _ _ v u Q I rx ry ⟨z, i, c, rfl, rfl, Nat.le_trans hz.1 lim_line, e, q _ (.str ⟨by show 1 ≤ lim; decide, ?_⟩)⟩ hsub
        have hm : c ∈ z.cps.toList := by
          unfold atI at e
          cases q : ixN z.cps.toList.length i with
          | none => rw [q] at e; cases e
          | some j =>
            rw [q, Option.bind_some] at e
            exact List.mem_of_getElem? e
        have := hz.2
        unfold PyData.strOk at this ⊢
        rw [Array.all_eq_true'] at this
        have h3 := this c (by simpa using hm)
        simpa using h3
    | _ => cases hb
  | @ref i h =>
    unfold idxD at hb
    cases e : st[i]? with
    | none => simp only [e] at hb; cases hb
    | some o =>
      simp only [e] at hb
      cases o with
      | lst xs =>
        obtain ⟨hl, vs, g1, g2⟩ := hs.ob i _ e
        cases h2 with
        | int j =>
          obtain ⟨z, e1, e2⟩ := atI_of g2 hb
          exact ix_list value slice pins s σ _ _ _ v u Q I rx ry ⟨_, vs, j, z, rfl, rfl, .inl (.inl g1), e1, q z e2⟩ hsub
        | _ => cases hb
      | _ => cases hb
  | _ => cases hb
theorem cut_of {vs : List V} {ds : List D} {lo hi : Option Int} (r : RVs T.T w vs ds) : RVs T.T w (cutV vs lo hi) (cutL ds lo hi) := by
  unfold cutV cutL
  rw [r.length]
  exact (r.drop _).take _
theorem cutL_le {α : Type} {xs : List α} {lo hi : Option Int} : (cutL xs lo hi).length ≤ xs.length := by
  unfold cutL
  rw [List.length_take, List.length_drop]
  omega
theorem cutL_sub {α : Type} {xs : List α} {lo hi : Option Int} : ∀ x ∈ cutL xs lo hi, x ∈ xs := fun x h => List.mem_of_mem_drop (List.mem_of_mem_take h)
theorem strOk_all {x : Str} : PyData.strOk x = true ↔ ∀ c ∈ x.cps.toList, c < 0x110000 := by
  unfold PyData.strOk
  rw [Array.all_eq_true']
  constructor
  · intro h c hc
    have := h c (by simpa using hc)
    simpa using this
  · intro h c hc
    have := h c (by simpa using hc)
    simpa using this
def rS (T : Tg') (m : Bool) : V → Option Int → Option Int → Hp → VK → Prop := fun x lo hi H Q => ∃ w d st, w.H = H ∧ RS' T.T w st ∧ RV T.T w x d ∧ Ok1 T w Q (slcD m d lo hi st)
theorem sl_any (hK : X.K = T.T.K) {m : Bool} : SlR X (rS T m) := by
  intro pins s σ H x v vl vu lo hi sl Q I rx hsl pl pu ⟨w, d, st, e, hs, h, p⟩
  subst e
  have lists : ∀ {d : D}, RV T.T w x d → Ok1 T w Q (match lstOf st d with
    | some xs => mkL m (cutL xs lo hi) st
    | none => .bad) → ∃ T id, typeLookup (.type T) "__getitem__" = pure (some (.builtin id)) ∧ s.TypeIs v T ∧ wpAny (model X.prog X.w) X.A (getItem v (.ref sl)) (EP X pins σ Q) X.xe s := by
    intro d h p
    cases e1 : lstOf st d with
    | none => rw [e1] at p; exact (no_bad p).elim
    | some xs =>
      rw [e1] at p
      obtain ⟨a, vs, rfl, g1, g2, g3⟩ := lst_at hs h e1
      exact sl_list pins s σ _ _ v vl vu lo hi sl Q I rx hsl pl pu ⟨a, vs, rfl, .inl g1, mk_list hs (cut_of g2) (Nat.le_trans cutL_le g3) p⟩
  cases h with
  | @str z hz =>
    refine sl_str pins s σ _ _ v vl vu lo hi sl Q I rx hsl pl pu ⟨z, rfl, Nat.le_trans hz.1 lim_line, ok_val hs (.str ⟨?_, ?_⟩) p⟩
    · show (cutL z.cps.toList lo hi).toArray.size ≤ lim
      rw [List.size_toArray]
      refine Nat.le_trans cutL_le ?_
      rw [Array.length_toList]; exact hz.1
    · rw [strOk_all]
      intro c hc
      exact strOk_all.mp hz.2 c (cutL_sub c hc)
  | @tup a vs xs h hl r =>
    have hl1 : HT.sIx vs.length 0 lo = HT.sIx xs.length 0 lo := by rw [r.length]
    have hl2 : HT.sIx vs.length vs.length hi = HT.sIx xs.length xs.length hi := by rw [r.length]
    refine sl_tupA pins s σ _ _ v vl vu lo hi sl Q I rx hsl pl pu ⟨a, vs, rfl, by rw [hK]; exact h.1, fun hw => ?_, fun _ => mk_tup hs (cut_of r) (Nat.le_trans cutL_le hl) p⟩
    rw [hl1, hl2] at hw
    have e : cutL xs lo hi = xs := by
      unfold cutL
      rw [hw.1, hw.2, List.drop_zero, Nat.sub_zero, r.length, List.take_length]
    have p' : Ok1 T w Q (.ok (.tup (cutL xs lo hi)) st) := p
    rw [e] at p'
    exact ok_val hs (.tup h hl r) p'
  | @lst a vs xs h hl r => exact lists (.lst h hl r) p
  | @ref i h => exact lists (.ref h) p
  | non => exact lists (d := .non) .non p
  | bl b => exact lists (d := .bl b) (.bl b) p
  | int b => exact lists (d := .int b) (.int b) p
  | @obj a dx c vs fs h hf r => exact lists (d := .obj c fs) (.obj h hf r) p
/-! ### truth -/
theorem tru_of (hs : RS' T.T w st) {v : V} {d : D} {b : Bool} (h : RV T.T w v d) (e : truth st d = some b) : TruV T.T.K v w.H b := by
  cases h with
  | non => cases e; rfl
  | bl b => cases e; rfl
  | int i => cases e; rfl
  | @str z hz =>
    cases e
    refine ⟨Nat.le_trans hz.1 lim_line, ?_⟩
    cases z.length <;> rfl
  | @tup a vs xs h hl r =>
    cases e
    refine .inr (.inl ⟨vs, h.1, ?_⟩)
    cases r <;> rfl
  | @lst a vs xs h hl r =>
    cases e
    refine .inl ⟨vs, h.sq, ?_⟩
    cases r <;> rfl
  | obj h hf r => cases e
  | @ref i h =>
    have e' : (match st[i]? with
      | some (.lst xs) => some (!xs.isEmpty)
      | _ => none) = some b := e
    cases q : st[i]? with
    | none => rw [q] at e'; cases e'
    | some o =>
      rw [q] at e'
      cases o with
      | lst xs =>
        obtain ⟨hl, vs, g1, g2⟩ := hs.ob i _ q
        cases e'
        refine .inl ⟨vs, .inl (.inl g1), ?_⟩
        cases g2 <;> rfl
      | _ => cases e'
end
end MP
set_option linter.all false
set_option maxRecDepth 100000
set_option maxHeartbeats 4000000
/-! M6: built-ins and their methods on values. -/
namespace MP
open PySem PySem.Spec PyProof.Rows L2
section
variable {T : Tg'} {N : List Str} {c : Cfg} {sc : Scope} {hot : Bool} {k : Nat} {X : Cx} {W : WX} {w : Wd} {st : St}
def Bi.val : Bi → Value
  | .len => .builtin "len" | .abs => .builtin "abs" | .max2 => .builtin "max" | .min2 => .builtin "min" | .max1 => .builtin "max" | .min1 => .builtin "min" | .sum1 => .builtin "sum"
  | .int1 => .type "int" | .str1 => .type "str" | .tuple1 => .type "tuple" | .list1 => .type "list" | .gcd => .builtin "math.gcd" | .bool1 => .type "bool"
def rBi (T : Tg') (b : Bi) (m : Bool) : List V → Hp → VK → Prop := fun vs H Q => ∃ w ds st, w.H = H ∧ RS' T.T w st ∧ RVs T.T w vs ds ∧ Ok1 T w Q (biD b m ds st)
theorem rvs1 {vs : List V} {d : D} (r : RVs T.T w vs [d]) : ∃ v, vs = [v] ∧ RV T.T w v d := by
  cases r with
  | cons h r => cases r; exact ⟨_, rfl, h⟩
theorem rvs2 {vs : List V} {d e : D} (r : RVs T.T w vs [d, e]) : ∃ v u, vs = [v, u] ∧ RV T.T w v d ∧ RV T.T w u e := by
  cases r with
  | cons h r => cases r with
    | cons h' r => cases r; exact ⟨_, _, rfl, h, h'⟩
theorem ints_at : ∀ {vs : List V} {ds : List D} {ns : List Int}, RVs T.T w vs ds → intsOf ds = some ns → vs = ns.map V.int
  | _, _, ns, .nil, e => by cases e; rfl
  | _, _, ns, .cons (d := d) (ds := ds) h r, e => by
    cases h with
    | int i =>
      have e' : (intsOf ds).map (i :: ·) = some ns := e
      cases q : intsOf ds with
      | none => rw [q] at e'; cases e'
      | some ms =>
        rw [q] at e'
        cases e'
        rw [ints_at r q]; rfl
    | _ => cases e
theorem foldl_max : ∀ (r : List Int) (i : Int), (r.foldl (fun a b => if b > a then b else a) i ∈ i :: r) ∧ ∀ y ∈ i :: r, y ≤ r.foldl (fun a b => if b > a then b else a) i
  | [], i => ⟨List.mem_cons_self, fun y h => by
    have e : y = i := by simpa using h
    rw [e]; exact Int.le_refl _⟩
  | b :: r, i => by
    obtain ⟨h1, h2⟩ := foldl_max r (if b > i then b else i)
    rw [List.foldl_cons]
    have h4 : i ≤ (if b > i then b else i) ∧ b ≤ (if b > i then b else i) := by split <;> omega
    refine ⟨?_, fun y h => ?_⟩
    · rcases List.mem_cons.mp h1 with e | e
      · rw [e]; split <;> simp
      · exact List.mem_cons_of_mem _ (List.mem_cons_of_mem _ e)
    · have h3 := h2 _ List.mem_cons_self
      rcases List.mem_cons.mp h with e | e
      · rw [e]; exact Int.le_trans h4.1 h3
      · rcases List.mem_cons.mp e with e | e
        · rw [e]; exact Int.le_trans h4.2 h3
        · exact h2 y (List.mem_cons_of_mem _ e)
theorem foldl_min : ∀ (r : List Int) (i : Int), (r.foldl (fun a b => if b < a then b else a) i ∈ i :: r) ∧ ∀ y ∈ i :: r, r.foldl (fun a b => if b < a then b else a) i ≤ y
  | [], i => ⟨List.mem_cons_self, fun y h => by
    have e : y = i := by simpa using h
    rw [e]; exact Int.le_refl _⟩
  | b :: r, i => by
    obtain ⟨h1, h2⟩ := foldl_min r (if b < i then b else i)
    rw [List.foldl_cons]
    have h4 : (if b < i then b else i) ≤ i ∧ (if b < i then b else i) ≤ b := by split <;> omega
    refine ⟨?_, fun y h => ?_⟩
    · rcases List.mem_cons.mp h1 with e | e
      · rw [e]; split <;> simp
      · exact List.mem_cons_of_mem _ (List.mem_cons_of_mem _ e)
    · have h3 := h2 _ List.mem_cons_self
      rcases List.mem_cons.mp h with e | e
      · rw [e]; exact Int.le_trans h3 h4.1
      · rcases List.mem_cons.mp e with e | e
        · rw [e]; exact Int.le_trans h3 h4.2
        · exact h2 y (List.mem_cons_of_mem _ e)
theorem ints_one {a : D} {v : V} {ns : List Int} (hs : RS' T.T w st) (h : RV T.T w v a) (e : (lstOf st a).bind intsOf = some ns) : ∃ p, v = .ref p ∧ SqL T.T.K w.H p (ns.map V.int) := by
  cases q : lstOf st a with
  | none => rw [q] at e; cases e
  | some xs =>
    rw [q, Option.bind_some] at e
    obtain ⟨p, vs, rfl, h1, h2, h3⟩ := lst_at hs h q
    rw [← ints_at h2 e]
    exact ⟨p, rfl, .inl h1⟩
/-- no argument, one, two, more -/
theorem call_bi (hK : X.K = T.T.K) (hc : X.calm = true) (b : Bi) {m : Bool} : CallR X b.val (rBi T b m) := by
  intro pins s σ H xs us Q I r ⟨w, ds, st, e, hs, rv, p⟩
  subst e
  cases rv with
  | nil => cases b <;> exact (no_bad p).elim
  | @cons v vs d ds h rv => cases rv with
    | @cons v2 vs2 d2 ds2 h2 rv => cases rv with
      | cons => cases b <;> cases h <;> first | exact (no_bad p).elim | (cases h2 <;> exact (no_bad p).elim)
      | nil =>
        cases b with
        | max2 => cases h with
          | int i => cases h2 with
            | int j => exact call_max2 hc pins s σ _ _ us Q I r ⟨i, j, rfl, ok_val hs (.int _) p⟩
            | _ => exact (no_bad p).elim
          | _ => exact (no_bad p).elim
        | min2 => cases h with
          | int i => cases h2 with
            | int j => exact call_min2 hc pins s σ _ _ us Q I r ⟨i, j, rfl, ok_val hs (.int _) p⟩
            | _ => exact (no_bad p).elim
          | _ => exact (no_bad p).elim
        | gcd => cases h with
          | int i => cases h2 with
            | int j => exact cr_gcd pins s σ _ _ us Q I r ⟨i, j, rfl, ok_val hs (.int _) p⟩
            | _ => exact (no_bad p).elim
          | _ => exact (no_bad p).elim
        | _ => cases h <;> first | exact (no_bad p).elim | (cases h2 <;> exact (no_bad p).elim)
    | nil =>
      cases b with
      | len =>
        have seqs : Ok1 T w Q (match seqOf st d with
          | some xs => .ok (.int xs.length) st
          | none => .bad) → wpAny (model X.prog X.w) X.A (call Bi.len.val us) (EP X pins σ Q) X.xe s := by
          intro p
          cases e1 : seqOf st d with
          | none => rw [e1] at p; exact (no_bad p).elim
          | some ys =>
            rw [e1] at p
            obtain ⟨a, vs, rfl, g1, g2, g3⟩ := seq_at hs h e1
            refine call_len pins s σ _ _ us Q I r ⟨_, vs.length, rfl, ?_, by rw [g2.length]; exact ok_val hs (.int _) p⟩
            rw [hK]
            rcases g1 with g1 | g1
            · exact .inl ⟨vs, g1, rfl⟩
            · exact .inr ⟨vs, g1, rfl⟩
        cases h with
        | @str z hz => exact call_len pins s σ _ _ us Q I r ⟨_, z.length, rfl, ⟨Nat.le_trans hz.1 lim_line, rfl⟩, ok_val hs (.int _) p⟩
        | _ => exact seqs p
      | abs => cases h with
        | int i => exact call_abs pins s σ _ _ us Q I r ⟨i, rfl, ok_val hs (.int _) p⟩
        | _ => exact (no_bad p).elim
      | max1 =>
        have p' : Ok1 T w Q (match (lstOf st d).bind intsOf with
          | some ns => ofO ((maxI ns).map .int) st
          | none => .bad) := p
        cases e1 : (lstOf st d).bind intsOf with
        | none => rw [e1] at p'; exact (no_bad p').elim
        | some ns =>
          rw [e1] at p'
          obtain ⟨a, rfl, g⟩ := ints_one hs h e1
          cases ns with
          | nil => exact (no_bad p').elim
          | cons i ns =>
            refine cr_max hc pins s σ _ _ us Q I r ⟨a, i :: ns, rfl, by rw [hK]; exact g, by simp, fun z hz hle => ?_⟩
            obtain ⟨f1, f2⟩ := foldl_max ns i
            have e2 : z = ns.foldl (fun a b => if b > a then b else a) i := Int.le_antisymm (f2 z hz) (hle _ f1)
            rw [e2]
            exact ok_val hs (.int _) p'
      | min1 =>
        have p' : Ok1 T w Q (match (lstOf st d).bind intsOf with
          | some ns => ofO ((minI ns).map .int) st
          | none => .bad) := p
        cases e1 : (lstOf st d).bind intsOf with
        | none => rw [e1] at p'; exact (no_bad p').elim
        | some ns =>
          rw [e1] at p'
          obtain ⟨a, rfl, g⟩ := ints_one hs h e1
          cases ns with
          | nil => exact (no_bad p').elim
          | cons i ns =>
            refine cr_min hc pins s σ _ _ us Q I r ⟨a, i :: ns, rfl, by rw [hK]; exact g, by simp, fun z hz hle => ?_⟩
            obtain ⟨f1, f2⟩ := foldl_min ns i
            have e2 : z = ns.foldl (fun a b => if b < a then b else a) i := Int.le_antisymm (hle _ f1) (f2 z hz)
            rw [e2]
            exact ok_val hs (.int _) p'
      | sum1 =>
        have p' : Ok1 T w Q (match (lstOf st d).bind intsOf with
          | some ns => .ok (.int ns.sum) st
          | none => .bad) := p
        cases e1 : (lstOf st d).bind intsOf with
        | none => rw [e1] at p'; exact (no_bad p').elim
        | some ns =>
          rw [e1] at p'
          obtain ⟨a, rfl, g⟩ := ints_one hs h e1
          exact cr_sum hc pins s σ _ _ us Q I r ⟨a, ns, rfl, by rw [hK]; exact g, ok_val hs (.int _) p'⟩
      | int1 => cases h with
        | int i => exact call_int1 pins s σ _ _ us Q I r (.inl ⟨i, rfl, ok_val hs (.int _) p⟩)
        | bl b => exact call_int1 pins s σ _ _ us Q I r (.inr ⟨b, rfl, ok_val hs (.int _) p⟩)
        | @str z hz =>
          have p' : Ok1 T w Q (match intText? z with
            | some n => if z.length ≤ 640 then .ok (.int n) st else .bad
            | none => .bad) := p
          cases e1 : intText? z with
          | none => rw [e1] at p'; exact (no_bad p').elim
          | some n =>
            rw [e1] at p'
            dsimp only at p'
            by_cases hl : z.length ≤ 640
            · rw [if_pos hl] at p'
              exact call_int_str pins s σ _ _ us Q I r ⟨z, n, rfl, e1, hl, ok_val hs (.int _) p'⟩
            · rw [if_neg hl] at p'; exact (no_bad p').elim
        | _ => exact (no_bad p).elim
      | str1 => cases h with
        | int i =>
          by_cases hl : i.natAbs.log2 < 1900 ∧ strOk (Str.ofString (toString i))
          · have p' : Ok1 T w Q (if i.natAbs.log2 < 1900 ∧ strOk (Str.ofString (toString i)) then .ok (.str (Str.ofString (toString i))) st else .bad) := p
            rw [if_pos hl] at p'
            exact call_str_int pins s σ _ _ us Q I r ⟨i, rfl, Nat.lt_of_lt_of_le hl.1 (by decide), ok_val hs (.str hl.2) p'⟩
          · have p' : Ok1 T w Q (if i.natAbs.log2 < 1900 ∧ strOk (Str.ofString (toString i)) then .ok (.str (Str.ofString (toString i))) st else .bad) := p
            rw [if_neg hl] at p'; exact (no_bad p').elim
        | _ => exact (no_bad p).elim
      | tuple1 =>
        have lists : ∀ {d : D}, RV T.T w v d → Ok1 T w Q (match lstOf st d with
          | some xs => .ok (.tup xs) st
          | none => .bad) → wpAny (model X.prog X.w) X.A (call Bi.tuple1.val us) (EP X pins σ Q) X.xe s := by
          intro d h p
          cases e1 : lstOf st d with
          | none => rw [e1] at p; exact (no_bad p).elim
          | some ys =>
            rw [e1] at p
            obtain ⟨a, vs, rfl, g1, g2, g3⟩ := lst_at hs h e1
            exact call_tuple_of pins s σ _ _ us Q I r ⟨a, vs, rfl, .inl ⟨.inl g1, mk_tup hs g2 g3 p⟩⟩
        cases h with
        | @tup a vs xs h hl rr => exact call_tuple_of pins s σ _ _ us Q I r ⟨a, vs, rfl, .inr ⟨by rw [hK]; exact h.1, ok_val hs (.tup h hl rr) p⟩⟩
        | non => exact lists (d := .non) .non p
        | bl b => exact lists (d := .bl b) (.bl b) p
        | int b => exact lists (d := .int b) (.int b) p
        | @str z hz => exact lists (d := .str z) (.str hz) p
        | @lst a vs xs h hl rr => exact lists (d := .lst xs) (.lst h hl rr) p
        | @obj a dx c vs fs h hf rr => exact lists (d := .obj c fs) (.obj h hf rr) p
        | @ref i h => exact lists (d := .ref i) (.ref h) p
      | list1 =>
        have p' : Ok1 T w Q (match seqOf st d with
          | some xs => mkL m xs st
          | none => .bad) := p
        cases e1 : seqOf st d with
        | none => rw [e1] at p'; exact (no_bad p').elim
        | some ys =>
          rw [e1] at p'
          obtain ⟨a, vs, rfl, g1, g2, g3⟩ := seq_at hs h e1
          exact call_list_of pins s σ _ _ us Q I r ⟨a, vs, rfl, by rw [hK]; exact g1, mk_list hs g2 g3 p'⟩
      | _ => cases h <;> exact (no_bad p).elim

/-! ### methods -/
def Bm.id : Bm → String
  | .append => "list.append" | .index => "list.index" | .pop0 => "list.pop" | .clear => "list.clear" | .split1 => "str.split" | .join => "str.join" | .strip1 => "str.strip"
def rBm (T : Tg') (b : Bm) (m : Bool) : V → List V → Hp → VK → Prop := fun x vs H Q => ∃ w d ds st, w.H = H ∧ RS' T.T w st ∧ RV T.T w x d ∧ RVs T.T w vs ds ∧ Ok1 T w Q (bmD b m d ds st)
/-- a list of the store is written -/
theorem wr_list {i : Nat} {xs ys : List D} {vs us : List V} {Q : VK} {d : D} {v : V} (hs : RS' T.T w st) (e : st[i]? = some (.lst xs)) (_h1 : w.H (w.r i) = some (.lst vs)) (r : RVs T.T w us ys) (hl : ys.length ≤ lim) (rd : RV T.T w v d)
    (p : Ok1 T w Q (.ok d (st.set i (.lst ys)))) : Q v (upd w.H (w.r i) (.lst us)) := by
  have x := Wd.wr_ext (o := .lst us) hs e (fun z => nomatch z)
  obtain ⟨W, σ, _, h⟩ := p
  exact h (w.wr (w.r i) (.lst us)) v x (hs.wr e (fun z => nomatch z) ⟨hl, us, upd_same, r.mono x⟩) (rd.mono x)
theorem find_of {ds : List D} {d : D} {v : V} : ∀ {vs : List V} {ds : List D} {j : Nat}, RV T.T w v d → RVs T.T w vs ds → ds.findIdx? (fun z => eqF z d) = some j →
    ∃ z, vs[j]? = some z ∧ eqV z v = true ∧ ∀ (m : Nat) (z' : V), m < j → vs[m]? = some z' → eqV z' v = false
  | _, _, j, hv, .nil, e => by simp at e
  | _, _, j, hv, .cons (v := u) (d := f) (vs := us) (ds := fs) h r, e => by
    rw [List.findIdx?_cons] at e
    cases q : eqF f d with
    | true =>
      rw [q] at e
      simp only [if_true] at e
      cases e
      exact ⟨u, rfl, (eqF_of h hv).trans q, fun m z' hm => absurd hm (Nat.not_lt_zero _)⟩
    | false =>
      rw [q] at e
      simp only [Bool.false_eq_true, if_false] at e
      cases q2 : fs.findIdx? (fun z => eqF z d) with
      | none => rw [q2] at e; cases e
      | some i =>
        rw [q2] at e
        cases e
        obtain ⟨z, a1, a2, a3⟩ := find_of (ds := fs) hv r q2
        refine ⟨z, by simpa using a1, a2, fun m z' hm hz => ?_⟩
        cases m with
        | zero =>
          have e2 : u = z' := by simpa using hz
          rw [← e2]; exact (eqF_of h hv).trans q
        | succ m => exact a3 m z' (by have hm2 : m + 1 < i + 1 := hm; omega) (by simpa using hz)
theorem mt_any (hK : X.K = T.T.K) (b : Bm) {m : Bool} : MtR X b.id (rBm T b m) := by
  intro pins s σ H x xs v us Q I rx rxs ⟨w, d, ds, st, e, hs, h, rv, p⟩
  subst e
  cases b with
  | append =>
    cases h with
    | @ref i h =>
      cases rv with
      | nil => exact (no_bad p).elim
      | cons h2 rv => cases rv with
        | cons => exact (no_bad p).elim
        | @nil =>
          rename_i y dy
          have p' : Ok1 T w Q (match st[i]? with
            | some (.lst xs) => if xs.length < lim then .ok .non (st.set i (.lst (xs ++ [dy]))) else .bad
            | _ => .bad) := p
          cases e : st[i]? with
          | none => rw [e] at p'; exact (no_bad p').elim
          | some o =>
            rw [e] at p'
            cases o with
            | lst ys =>
              dsimp only at p'
              by_cases hl : ys.length < lim
              · rw [if_pos hl] at p'
                obtain ⟨hl2, vs, g1, g2⟩ := hs.ob i _ e
                refine mt_append pins s σ _ _ _ v us Q I rx rxs ⟨_, vs, y, rfl, rfl, g1, by rw [g2.length]; exact Nat.lt_of_lt_of_le hl lim_line, ?_⟩
                exact wr_list hs e g1 (g2.append (.single h2)) (by rw [List.length_append]; exact hl) .non p'
              · rw [if_neg hl] at p'; exact (no_bad p').elim
            | _ => exact (no_bad p').elim
    | _ => exact (no_bad p).elim
  | pop0 =>
    cases h with
    | @ref i h =>
      cases rv with
      | cons => exact (no_bad p).elim
      | nil =>
        have p' : Ok1 T w Q (match st[i]? with
          | some (.lst xs) => match xs.getLast? with
            | some d => .ok d (st.set i (.lst xs.dropLast))
            | none => .bad
          | _ => .bad) := p
        cases e : st[i]? with
        | none => rw [e] at p'; exact (no_bad p').elim
        | some o =>
          rw [e] at p'
          cases o with
          | lst ys =>
            dsimp only at p'
            cases e2 : ys.getLast? with
            | none => rw [e2] at p'; exact (no_bad p').elim
            | some dy =>
              rw [e2] at p'
              obtain ⟨hl2, vs, g1, g2⟩ := hs.ob i _ e
              rw [List.getLast?_eq_getElem?] at e2
              obtain ⟨z, a1, a2⟩ := g2.get e2
              refine mt_pop pins s σ _ _ _ v us Q I rx rxs ⟨_, vs, z, rfl, rfl, g1, by rw [g2.length]; exact a1, ?_⟩
              refine wr_list hs e g1 ?_ (by rw [List.length_dropLast]; omega) a2 p'
              rw [List.dropLast_eq_take, List.dropLast_eq_take, g2.length]
              exact g2.take _
          | _ => exact (no_bad p').elim
    | _ => exact (no_bad p).elim
  | clear =>
    cases h with
    | @ref i h =>
      cases rv with
      | cons => exact (no_bad p).elim
      | nil =>
        have p' : Ok1 T w Q (match st[i]? with
          | some (.lst _) => .ok .non (st.set i (.lst []))
          | _ => .bad) := p
        cases e : st[i]? with
        | none => rw [e] at p'; exact (no_bad p').elim
        | some o =>
          rw [e] at p'
          cases o with
          | lst ys =>
            obtain ⟨hl2, vs, g1, g2⟩ := hs.ob i _ e
            refine mt_clear pins s σ _ _ _ v us Q I rx rxs ⟨_, vs, rfl, rfl, g1, ?_⟩
            exact wr_list hs e g1 .nil (Nat.zero_le _) .non p'
          | _ => exact (no_bad p').elim
    | _ => exact (no_bad p).elim
  | index =>
    cases rv with
    | nil => cases h <;> exact (no_bad p).elim
    | cons h2 rv => cases rv with
      | cons => cases h <;> exact (no_bad p).elim
      | @nil =>
        rename_i y dy
        have p' : Ok1 T w Q (match lstOf st d with
          | some xs => if flat dy && xs.all flat then ofO ((xs.findIdx? fun z => eqF z dy).map fun (j : Nat) => .int j) st else .bad
          | none => .bad) := by
          cases h <;> exact p
        cases e1 : lstOf st d with
        | none => rw [e1] at p'; exact (no_bad p').elim
        | some ys =>
          rw [e1] at p'
          dsimp only at p'
          by_cases hf : (flat dy && ys.all flat) = true
          · rw [if_pos hf] at p'
            rw [Bool.and_eq_true] at hf
            obtain ⟨a, vs, rfl, g1, g2, g3⟩ := lst_at hs h e1
            cases e2 : ys.findIdx? (fun z => eqF z dy) with
            | none => rw [e2] at p'; exact (no_bad p').elim
            | some j =>
              rw [e2] at p'
              obtain ⟨z, a1, a2, a3⟩ := find_of (ds := ys) h2 g2 e2
              exact mt_index pins s σ _ _ _ v us Q I rx rxs ⟨a, vs, y, j, z, rfl, rfl, .inl g1, (flat_of h2).trans hf.1, (flats_of g2).trans hf.2, a1, a2, a3, ok_val hs (.int _) p'⟩
          · rw [if_neg hf] at p'; exact (no_bad p').elim
  | _ => cases h <;> exact (no_bad p).elim
end
end MP
set_option linter.all false
set_option maxRecDepth 100000
set_option maxHeartbeats 4000000
/-! M7: expressions mean what the interpreter says. -/
namespace MP
open PySem PySem.Spec PyProof.Rows L2

def builtinNames : List Str := ["len", "abs", "max", "min", "sum", "int", "str", "tuple", "list", "bool", "range", "isinstance"]
/-- what the text is known to hold -/
structure TxOk (T : Tg') (nG : Nat) (ps : Nat → List Str) : Prop where
  free : ∀ x ∈ builtinNames, T.T.mg x = none
  gcd : T.T.mg "gcd" = some (.builtin "math.gcd")
  glob : ∀ g d, T.P.glob g = some d → ∃ u v, T.T.mg (T.nm.gl g) = some u ∧ RelV v u ∧ ∀ w, RV T.T w v d
  fnG : ∀ f, f < nG → T.T.mg (T.nm.fn f) = some (.ref (T.T.fa f))
  keep : ∀ f F, T.P.fns[f]? = some F → PySem.W.keepIn T.T.K (.ref (T.T.fa f)) = true
  len : ∀ f F, T.P.fns[f]? = some F → (ps f).length = F.np
  glbS : ∀ g, g < T.nm.nGl → (T.P.glob g).isSome = true
  fnS : ∀ f, f < nG → (T.P.fns[f]?).isSome = true
  iniS : ∀ k, k < T.nm.nC → (T.P.init k).isSome = true
  bind : ∀ f F, T.P.fns[f]? = some F → ∀ m ≤ F.dfl.length, ∃ dvs ds, Binds T.T.K (T.T.fd f) (ps f) ds ∧ Vals dvs ds ∧ ∀ w, RVs T.T w dvs (F.dfl.drop (F.dfl.length - m))
  fldN : T.T.fld = T.nm.fld
  /-- classes -/
  cls : ∀ c f, T.P.init c = some f → Cls T.T.K (T.T.ca c) ∧ Mk T.T.K (T.T.ca c) (T.T.fa f) ∧ T.T.mg (T.nm.cl c) = some (.ref (T.T.ca c))
  clsC : ∀ c, (T.P.init c).isSome = true → Cls T.T.K (T.T.ca c)
  meth : ∀ c f g, T.P.meth c f = some g → Cls T.T.K (T.T.ca c) ∧ Meth T.T.K (T.T.ca c) (T.nm.fld f) (T.T.fa g)
/-- what a def's call promises -/
def spI (T : Tg') (np : Nat) (run : List D → St → Res D) : Sp := fun vs H Q E =>
  ∃ w ds st, w.H = H ∧ RS' T.T w st ∧ RVs T.T w vs ds ∧ vs.length = np ∧ Po T (RVp T) w (fun cls d _ H' => E cls d H') [] Q (run ds st)
structure CallOk (T : Tg') (ps : Nat → List Str) (c : Cfg) (k : Nat) : Prop where
  none : ∀ f, T.P.fns[f]? = none → ∀ as st, c.call f as st = .bad
  some : ∀ f F, T.P.fns[f]? = some F → ∃ run : List D → St → Res D, (∀ as st, c.call f as st = match filled F as with
      | .none => .bad
      | .some as' => run as' st) ∧ FnOk T.T.prog T.T.w T.T.K T.T.mg T.T.base (L2N.CX T.T.prog T.T.w) k (T.T.fa f) (T.T.fd f) (ps f) (spI T F.np run)

section
variable {T : Tg'} {N : List Str} {nG : Nat} {ps : Nat → List Str} {c : Cfg} {sc : Scope} {hot : Ho} {k : Nat} {X : Cx} {W : WX}
/-! ### the checks -/
def okV (N : List Str) (sc : Scope) (i : Nat) : Bool :=
  decide (N[i]? = some (slotN N i)) && (decide (sc.names.lookup (slotN N i) = some .local) || decide (sc.names.lookup (slotN N i) = some .cell) || decide (sc.names.lookup (slotN N i) = some .free)) &&
    !(slotN N i == ("__debug__" : Str)) && !(slotN N i == ("__classdict__" : Str))
def okG (sc : Scope) (x : Str) : Bool := decide (sc.names.lookup x = some .globalImplicit) && !(x == ("__debug__" : Str))
def okL (N : List Str) (sc : Scope) (i : Nat) : Bool := decide (N[i]? = some (slotN N i)) && decide (sc.names.lookup (slotN N i) = some .local)
def bmK : Bm → Bool
  | .append | .index | .pop0 | .clear => true
  | _ => false
def lenEs : Es → Nat
  | .nil => 0
  | .cons _ es => lenEs es + 1
def okT (N : List Str) (hot : Ho) (sc : Scope) (i : Nat) : Bool := decide (N[i]? = some (slotN N i)) && (decide (sc.names.lookup (slotN N i) = some .local) || (decide (sc.names.lookup (slotN N i) = some .cell) && hot.fs (slotN N i)))
def okTg (N : List Str) (hot : Ho) (sc : Scope) : Tg → Bool
  | .name _ i => okT N hot sc i
  | .tup _ _ ns => !hot.h && ns.all fun q => okT N hot sc q.2
def Tg.slots : Tg → List Nat
  | .name _ i => [i]
  | .tup _ _ ns => ns.map (·.2)
def Ho.blk (cs : Scope) : Ho := ⟨false, fun x => cs.names.lookup x == some .cell⟩
mutual
/-- what may stand as a test -/
def tOk : E → Bool
  | .ifx .. => false
  | .frz _ => false
  | .not _ a => tOk a
  | .and _ es => tOks es
  | .or _ es => tOks es
  | _ => true
def tOks : Es → Bool
  | .nil => true
  | .cons e es => tOk e && tOks es
end
mutual
def okE (nm : Nm) (nG : Nat) (N : List Str) (hot : Ho) (sc : Scope) : E → Bool
  | .cst _ _ k => (match k with | .str x => decide (strOk x) | _ => true)
  | .var _ i => okV N sc i
  | .glob _ g => okG sc (nm.gl g) && decide (g < nm.nGl)
  | .bin _ _ _ a b => okE nm nG N hot sc a && okE nm nG N hot sc b
  | .neg _ a => okE nm nG N hot sc a
  | .not _ a => okE nm nG N hot sc a
  | .and _ es => okEs nm nG N hot sc es && decide (0 < lenEs es)
  | .or _ es => okEs nm nG N hot sc es && decide (0 < lenEs es)
  | .cmp _ o a b => okE nm nG N hot sc a && okE nm nG N hot sc b && (match o with | .mem => !behindInMarks .In (b.py nm N) | .nmem => !behindInMarks .NotIn (b.py nm N) | _ => true)
  | .chain _ o o' a b d => okE nm nG N hot sc a && okE nm nG N hot sc b && okE nm nG N hot sc d && !lastMarks [o.py, o'.py] [b.py nm N, d.py nm N]
  | .ifx _ t a b => okE nm nG N hot sc t && tOk t && okE nm nG N hot sc a && okE nm nG N hot sc b
  | .tup _ _ es => okEs nm nG N hot sc es && decide (lenEs es ≤ lim)
  | .lst _ _ es => okEs nm nG N hot sc es && decide (lenEs es ≤ lim)
  | .dnew _ => false
  | .idx _ a i => okE nm nG N hot sc a && okE nm nG N hot sc i
  | .slc _ _ _ a lo hi => okE nm nG N hot sc a && okO nm nG N hot sc lo && okO nm nG N hot sc hi
  | .rev _ _ _ _ _ _ a => false
  | .call _ _ f es => !hot.h && okG sc (nm.fn f) && decide (f < nG) && okEs nm nG N hot sc es
  | .make _ _ k es => !hot.h && okG sc (nm.cl k) && decide (k < nm.nC) && okEs nm nG N hot sc es && decide (0 < lenEs es)
  | .bi _ _ b _ es => !hot.h && okG sc b.py && okEs nm nG N hot sc es && decide (0 < lenEs es)
  | .isin _ _ a _ t => okG sc "isinstance" && okG sc t.py && okE nm nG N hot sc a
  | .meth p ap o _ es => !hot.h && okE nm nG N hot sc o && okEs nm nG N hot sc es && baseOk o && decide (lenEs es < 29) && (ap.endLine == p.line)
  | .bm p ap b _ o es => bmK b && okE nm nG N hot sc o && okEs nm nG N hot sc es && baseOk o && decide (lenEs es < 29) && (ap.endLine == p.line)
  | .attr _ o _ => okE nm nG N hot sc o && baseOk o
  | .comp _ _ cs own elt tg it ifs => !hot.h && blkC N sc cs own && okE nm nG N (Ho.blk cs) (relS cs sc) elt && okTg N (Ho.blk cs) (relS cs sc) tg && tg.slots.all (own.map (·.2)).contains && okI nm nG N hot sc it && okEs nm nG N (Ho.blk cs) (relS cs sc) ifs && tOks ifs && decide (lenEs ifs ≤ 1)
  | .lrng _ _ _ _ _ a => !hot.h && okG sc "list" && okG sc "range" && okE nm nG N hot sc a
  | .frz e => okE nm nG N hot sc e
def okEs (nm : Nm) (nG : Nat) (N : List Str) (hot : Ho) (sc : Scope) : Es → Bool
  | .nil => true
  | .cons e es => okE nm nG N hot sc e && okEs nm nG N hot sc es
def okO (nm : Nm) (nG : Nat) (N : List Str) (hot : Ho) (sc : Scope) : O → Bool
  | .no => true
  | .yes e => okE nm nG N hot sc e
def okI (nm : Nm) (nG : Nat) (N : List Str) (hot : Ho) (sc : Scope) : It → Bool
  | .rng1 _ _ a => okG sc "range" && okE nm nG N hot sc a
  | .rng2 _ _ a b => okG sc "range" && okE nm nG N hot sc a && okE nm nG N hot sc b
  | .of e => okE nm nG N hot sc e
end
/-! ### argument lists -/
theorem es_starEach : ∀ (es : Es) (env : Env), starEach (es.py T.nm N) env = ((es.py T.nm N).map fun e => (false, eval e env))
  | .nil, _ => rfl
  | .cons e es, env => by
    show starEach (e.py T.nm N :: es.py T.nm N) env = _
    rw [py_starEach, es_starEach es env]; rfl
theorem es_plain (es : Es) (env : Env) (pos : Pos) : (backTo pos (starEach (es.py T.nm N) env)).any (·.1) = false := by
  rw [es_starEach]
  unfold backTo
  rw [List.map_map, List.any_map]
  exact List.any_eq_false.mpr fun x _ => by simp [Function.comp]
theorem es_len : ∀ es : Es, (es.py T.nm N).length = lenEs es
  | .nil => rfl
  | .cons e es => by
    show (es.py T.nm N).length + 1 = _
    rw [es_len es]; rfl
theorem mcall_eq (o : E) (hb : baseOk o = true) (m : Str) (apos pos : Pos) (es : Es) (env : Env) (hl : (apos.endLine == pos.line) = true) (hn : lenEs es < 29) :
    eval (.Call (.Attribute (o.py T.nm N) m apos) (es.py T.nm N) [] pos) env = (do
      let ov ← eval (o.py T.nm N) env
      standAt apos.atName
      let (f, first) ← holding [ov] (getMethod ov m (plainOf (o.py T.nm N) env))
      callWith pos f first (backTo pos (starEach (es.py T.nm N) env)) (backToKw pos (keywordEach [] env))) := by
  show (do
    let ov ← attributeBase (o.py T.nm N) m env (eval (o.py T.nm N) env)
    standAt apos.atName
    methodCall (o.py T.nm N) m apos pos env ov ((es.py T.nm N).length + ([] : List Keyword).length) (backTo pos (starEach (es.py T.nm N) env)) (backToKw pos (keywordEach [] env))) = _
  rw [py_base o hb]
  have hf : methodCallForm ((es.py T.nm N).length + ([] : List Keyword).length) (backTo pos (starEach (es.py T.nm N) env)) (backToKw pos (keywordEach [] env)) = true := by
    unfold methodCallForm
    rw [es_len]
    have h1 : (backTo pos (starEach (es.py T.nm N) env)).all (!·.1) = true := by
      have h2 := es_plain (T := T) (N := N) es env pos
      rw [List.all_eq_true]
      intro x hx
      have h3 := List.any_eq_false.mp h2 x hx
      simpa using h3
    rw [h1]
    have h4 : decide (lenEs es + ([] : List Keyword).length + (if ([] : List (Option Str × Sem Value)).isEmpty = true then 0 else 1) < 30) = true := decide_eq_true (by simp; omega)
    exact h4
  have h : ∀ ov, methodCall (o.py T.nm N) m apos pos env ov ((es.py T.nm N).length + ([] : List Keyword).length) (backTo pos (starEach (es.py T.nm N) env)) (backToKw pos (keywordEach [] env)) = (do
      let (f, first) ← holding [ov] (getMethod ov m (plainOf (o.py T.nm N) env))
      callWith pos f first (backTo pos (starEach (es.py T.nm N) env)) (backToKw pos (keywordEach [] env))) := fun ov => mcall_line hf hl
  simp only [h]

/-! ### the context's facts -/
theorem XO.vis {i : Nat} (hX : XO T N sc hot k X) (h : okV N sc i = true) : X.N[i]? = some (slotN N i) ∧ Vis X.env.scope (slotN N i) ∧ (slotN N i == ("__debug__" : Str)) = false ∧ (slotN N i == ("__classdict__" : Str)) = false := by
  unfold okV at h
  simp only [Bool.and_eq_true, Bool.or_eq_true, decide_eq_true_eq, Bool.not_eq_true'] at h
  obtain ⟨⟨⟨h1, h2⟩, h3⟩, h4⟩ := h
  refine ⟨by rw [hX.xN]; exact h1, ?_, h3, h4⟩
  unfold Vis
  rw [hX.sc]
  rcases h2 with (h2 | h2) | h2
  · exact .inl h2
  · exact .inr (.inl h2)
  · exact .inr (.inr h2)
theorem XO.gl {x : Str} (hX : XO T N sc hot k X) (h : okG sc x = true) : Gl X x ∧ (x == ("__debug__" : Str)) = false := by
  unfold okG at h
  simp only [Bool.and_eq_true, decide_eq_true_eq, Bool.not_eq_true'] at h
  refine ⟨?_, h.2⟩
  show X.env.scope.names.lookup x = some .globalImplicit
  rw [hX.sc]; exact h.1
theorem XO.loc {i : Nat} (hX : XO T N sc hot k X) (h : okL N sc i = true) : X.N[i]? = some (slotN N i) ∧ X.env.scope.names.lookup (slotN N i) = some .local := by
  unfold okL at h
  simp only [Bool.and_eq_true, decide_eq_true_eq] at h
  exact ⟨by rw [hX.xN]; exact h.1, by rw [hX.sc]; exact h.2⟩
/-- an operation's end, asked through Po -/
theorem Po.ok1 {w : Wd} {σ : L2.St} {Q : VK} {r : Res D} (h : Po T (RVp T) w W σ Q r) (hn : ∀ k as st, r ≠ .exc k as st) : Ok1 T w Q r := by
  refine ⟨fun _ _ _ _ => False, σ, fun _ _ _ _ z => z, ?_⟩
  cases r with
  | ok a st => exact h
  | exc k as st => exact absurd rfl (hn k as st)
  | bad => exact h
theorem binD_noexc {o : BOp} {m : Bool} {a b : D} {st : St} : ∀ k as s, binD o m a b st ≠ .exc k as s := by
  intro k as s e
  unfold binD mkL at e
  repeat' split at e
  all_goals first | cases e | (split at e <;> cases e)
theorem ofO_noexc {α : Type} {o : Option α} {st : St} : ∀ k as s, ofO o st ≠ .exc k as s := by
  intro k as s e
  cases o <;> cases e

/-! ### constants, names -/
theorem se_cst {p : Pos} {kk : Nat} {x : Cst} (h : okE T.nm nG N hot sc (.cst p kk x) = true) : SE T N c sc hot k (.cst p kk x) := by
  intro X W hX tk
  cases x with
  | non => exact pe_non.imp fun σ H Q ⟨w, env, st, e, hs, he, p⟩ => by subst e; exact p w _ (Ext.refl w) hs .non
  | bl b => exact pe_bl.imp fun σ H Q ⟨w, env, st, e, hs, he, p⟩ => by subst e; exact p w _ (Ext.refl w) hs (.bl b)
  | int i => exact pe_int.imp fun σ H Q ⟨w, env, st, e, hs, he, p⟩ => by subst e; exact p w _ (Ext.refl w) hs (.int i)
  | str z =>
    have hz : strOk z := by
      unfold okE at h
      exact of_decide_eq_true h
    exact pe_str.imp fun σ H Q ⟨w, env, st, e, hs, he, p⟩ => by subst e; exact p w _ (Ext.refl w) hs (.str hz)
theorem se_var {p : Pos} {i : Nat} (h : okE T.nm nG N hot sc (.var p i) = true) : SE T N c sc hot k (.var p i) := by
  intro X W hX tk
  have h' : okV N sc i = true := by unfold okE at h; exact h
  obtain ⟨h1, h2, h3, h4⟩ := hX.vis h'
  refine (pe_var h1 h2 h3 h4).imp fun σ H Q ⟨w, env, st, e, hs, he, p⟩ => ?_
  subst e
  have p' : Po T (RVp T) w W σ Q (ofO (getV env i) st) := by unfold ev at p; exact p
  obtain ⟨v, e1, d, e2, q⟩ : ∃ v, σ[i]? = some (some v) ∧ ∃ d, RV T.T w v d ∧ getV env i = some d := by
    unfold getV at p' ⊢
    cases q : env[i]? with
    | none => rw [q] at p'; exact p'.elim
    | some o =>
      rw [q] at p'
      cases o with
      | none => exact p'.elim
      | some d =>
        rcases he.2 i d q with ⟨k, as, rfl⟩ | ⟨v, e1, e2⟩
        · exact p'.elim
        · exact ⟨v, e1, d, e2, by cases e2 <;> rfl⟩
  rw [q] at p'
  exact ⟨v, e1, p' w v (Ext.refl w) hs e2⟩

/-! ### two parts -/
theorem tR_two {γ δ : Type} {rep2 : Rp δ γ} {a b : E} {w : Wd} {σ : L2.St} {env : En} {st : St} {R : δ → Hp → Prop} {g : D → D → St → Res γ} (hs : RS' T.T w st) (he : RE T.T w σ env)
    (p : Po T rep2 w W σ R ((ev c a env st).bind fun x s => (ev c b env s).bind fun y s => g x y s)) :
    tR T (RVp T) W (ev c a) σ w.H (fun x H1 => tR T (RVp T) W (ev c b) σ H1 (fun y H2 => ∃ w2 d1 d2 st2, w2.H = H2 ∧ Ext w w2 ∧ RS' T.T w2 st2 ∧ RE T.T w2 σ env ∧ RV T.T w2 x d1 ∧ RV T.T w2 y d2 ∧ Po T rep2 w2 W σ R (g d1 d2 st2))) := by
  refine (tR_bind hs he p).mono fun x H1 ⟨w1, d1, st1, q1⟩ => ?_
  obtain ⟨h1, x1, s1, e1, v1, _, p1⟩ := q1
  subst h1
  refine (tR_bind s1 e1 p1).mono fun y H2 ⟨w2, d2, st2, q2⟩ => ?_
  obtain ⟨h2, x2, s2, e2, v2, _, p2⟩ := q2
  exact ⟨w2, d1, d2, st2, h2, x1.trans x2, s2, e2, v1.mono x2, v2, p2⟩
theorem ok_rv {w : Wd} {σ : L2.St} {Q : VK} {d : D} {v : V} {st : St} (hs : RS' T.T w st) (r : RV T.T w v d) (p : Po T (RVp T) w W σ Q (.ok d st)) : Q v w.H := p w v (Ext.refl w) hs r
theorem ofO_some {α β : Type} {rep : Rp β α} {w : Wd} {σ : L2.St} {Q : β → Hp → Prop} {o : Option α} {st : St} (p : Po T rep w W σ Q (ofO o st)) : ∃ a, o = some a ∧ Po T rep w W σ Q (.ok a st) := by
  cases o with
  | none => exact p.elim
  | some a => exact ⟨a, rfl, p⟩

theorem se_bin {p : Pos} {m : Bool} {o : BOp} {a b : E} (ha : SE T N c sc hot k a) (hb : SE T N c sc hot k b) : SE T N c sc hot k (.bin p m o a b) := by
  intro X W hX tk
  refine (pe_op (op_bin hX.K o (m := m)) (ha X W hX tk) (hb X W hX tk)).imp fun σ H Q ⟨w, env, st, e, hs, he, p⟩ => ?_
  subst e
  unfold ev at p
  exact (tR_two hs he p).mono fun x H1 q => q.mono fun y H2 ⟨w2, d1, d2, st2, h2, x2, s2, e2, v1, v2, p2⟩ => ⟨w2, d1, d2, st2, h2, s2, v1, v2, p2.ok1 binD_noexc⟩
theorem se_neg {p : Pos} {a : E} (ha : SE T N c sc hot k a) : SE T N c sc hot k (.neg p a) := by
  intro X W hX tk
  refine (pe_un un_neg (ha X W hX tk)).imp fun σ H Q ⟨w, env, st, e, hs, he, p⟩ => ?_
  subst e
  unfold ev at p
  refine (tR_bind hs he p).mono fun x H1 ⟨w1, d1, st1, q⟩ => ?_
  obtain ⟨h1, x1, s1, e1, v1, _, p1⟩ := q
  subst h1
  cases v1 with
  | int i => exact ⟨i, rfl, ok_rv s1 (.int _) p1⟩
  | _ => exact p1.elim
theorem se_cmp {p : Pos} {o : COp} {a b : E} (h : okE T.nm nG N hot sc (.cmp p o a b) = true) (ha : SE T N c sc hot k a) (hb : SE T N c sc hot k b) : SE T N c sc hot k (.cmp p o a b) := by
  intro X W hX tk
  have hm : behindInMarks o.py (b.py T.nm N) = false := by
    unfold okE at h
    rw [Bool.and_eq_true] at h
    cases o with
    | mem => exact Bool.not_eq_true' _ |>.mp h.2
    | nmem => exact Bool.not_eq_true' _ |>.mp h.2
    | _ => exact nomark _
  refine (pe_cmpR (op_cmp hX.K (by have := hX.units; omega) o) (ha X W hX tk) (hb X W hX tk) hm).imp fun σ H Q ⟨w, env, st, e, hs, he, p⟩ => ?_
  subst e
  unfold ev at p
  refine (tR_two hs he p).mono fun x H1 q => q.mono fun y H2 ⟨w2, d1, d2, st2, h2, x2, s2, e2, v1, v2, p2⟩ => ?_
  subst h2
  obtain ⟨d, e3, p3⟩ := ofO_some p2
  cases e4 : cmpD st2 o d1 d2 with
  | none => rw [e4] at e3; cases e3
  | some b => rw [e4] at e3; cases e3; exact ⟨w2, d1, d2, st2, b, rfl, s2, v1, v2, e4, ok_rv s2 (.bl _) p3⟩
theorem se_chain {p : Pos} {o o' : COp} {a b d : E} (h : okE T.nm nG N hot sc (.chain p o o' a b d) = true) (ha : SE T N c sc hot k a) (hb : SE T N c sc hot k b) (hd : SE T N c sc hot k d) : SE T N c sc hot k (.chain p o o' a b d) := by
  intro X W hX tk
  have hm : lastMarks [o.py, o'.py] [b.py T.nm N, d.py T.nm N] = false := by
    unfold okE at h
    rw [Bool.and_eq_true] at h
    exact Bool.not_eq_true' _ |>.mp h.2
  have hu : X.A.units + 64 < cLine := by have := hX.units; omega
  refine (pe_chain (op_cmp hX.K hu o) (op_cmp hX.K hu o') (ha X W hX tk) (hb X W hX tk) (hd X W hX tk) hm).imp fun σ H Q ⟨w, env, st, e, hs, he, p⟩ => ?_
  subst e
  unfold ev at p
  refine (tR_two hs he p).mono fun x H1 q => q.mono fun y H2 ⟨w2, d1, d2, st2, h2, x2, s2, e2, v1, v2, p2⟩ => ?_
  subst h2
  cases e4 : cmpD st2 o d1 d2 with
  | none => rw [e4] at p2; exact p2.elim
  | some q =>
    rw [e4] at p2
    refine ⟨w2, d1, d2, st2, q, rfl, s2, v1, v2, e4, q, rfl, ?_⟩
    cases q with
    | false => exact ok_rv s2 (.bl _) p2
    | true =>
      have p3 : Po T (RVp T) w2 W σ Q ((ev c d env st2).bind fun z s => ofO ((cmpD s o' d2 z).map .bl) s) := p2
      show tR T (RVp T) W (ev c d) σ w2.H _
      refine (tR_bind s2 e2 p3).mono fun z H3 ⟨w3, d3, st3, q3⟩ => ?_
      obtain ⟨h3, x3, s3, e3, v3, _, p4⟩ := q3
      obtain ⟨d5, e5, p5⟩ := ofO_some p4
      cases e6 : cmpD st3 o' d2 d3 with
      | none => rw [e6] at e5; cases e5
      | some b => rw [e6] at e5; cases e5; exact ⟨w3, d2, d3, st3, b, h3, s3, v2.mono x3, v3, e6, h3 ▸ ok_rv s3 (.bl _) p5⟩
theorem se_idx {p : Pos} {a b : E} (ha : SE T N c sc hot k a) (hb : SE T N c sc hot k b) : SE T N c sc hot k (.idx p a b) := by
  intro X W hX tk
  refine (pe_ix (ix_any hX.K) (ha X W hX tk) (hb X W hX tk) (py_plainIx b)).imp fun σ H Q ⟨w, env, st, e, hs, he, p⟩ => ?_
  subst e
  unfold ev at p
  refine (tR_two hs he p).mono fun x H1 q => q.mono fun y H2 ⟨w2, d1, d2, st2, h2, x2, s2, e2, v1, v2, p2⟩ => ?_
  subst h2
  obtain ⟨d, e3, p3⟩ := ofO_some p2
  exact ⟨w2, d1, d2, st2, d, rfl, s2, v1, v2, e3, fun v r => ok_rv s2 r p3⟩
theorem se_tup {p : Pos} {kk : Nat} {es : Es} (h : okE T.nm nG N hot sc (.tup p kk es) = true) (hes : SEs T N c sc hot k es) (hlen : ∀ env st xs s, evs c es env st = .ok xs s → xs.length = lenEs es) : SE T N c sc hot k (.tup p kk es) := by
  intro X W hX tk
  have hl : lenEs es ≤ lim := by unfold okE at h; rw [Bool.and_eq_true] at h; exact of_decide_eq_true h.2
  refine (pe_tup (hes X W hX tk)).imp fun σ H Q ⟨w, env, st, e, hs, he, p⟩ => ?_
  subst e
  unfold ev at p
  refine (tR_bind hs he p).mono fun vs H1 ⟨w1, ds, st1, q⟩ => ?_
  obtain ⟨h1, x1, s1, e1, v1, q1, p1⟩ := q
  subst h1
  have hl2 : ds.length ≤ lim := by rw [hlen _ _ _ _ q1]; exact hl
  exact ⟨by rw [v1.length]; exact Nat.le_trans hl2 lim_line, mk_tup s1 v1 hl2 (p1.ok1 fun _ _ _ z => nomatch z)⟩
theorem mkL_noexc {m : Bool} {xs : List D} {st : St} : ∀ k as s, mkL m xs st ≠ .exc k as s := by
  intro k as s e
  cases m <;> cases e
theorem se_lst {p : Pos} {m : Bool} {es : Es} (h : okE T.nm nG N hot sc (.lst p m es) = true) (hes : SEs T N c sc hot k es) (hlen : ∀ env st xs s, evs c es env st = .ok xs s → xs.length = lenEs es) : SE T N c sc hot k (.lst p m es) := by
  intro X W hX tk
  have hl : lenEs es ≤ lim := by unfold okE at h; rw [Bool.and_eq_true] at h; exact of_decide_eq_true h.2
  refine (pe_lst (hes X W hX tk)).imp fun σ H Q ⟨w, env, st, e, hs, he, p⟩ => ?_
  subst e
  unfold ev at p
  refine (tR_bind hs he p).mono fun vs H1 ⟨w1, ds, st1, q⟩ => ?_
  obtain ⟨h1, x1, s1, e1, v1, q1, p1⟩ := q
  subst h1
  have hl2 : ds.length ≤ lim := by rw [hlen _ _ _ _ q1]; exact hl
  exact ⟨by rw [v1.length]; exact Nat.le_trans hl2 lim_line, mk_list s1 v1 hl2 (p1.ok1 mkL_noexc)⟩
theorem evs_len : ∀ (es : Es) (env : En) (st : St) (xs : List D) (s : St), evs c es env st = .ok xs s → xs.length = lenEs es
  | .nil, env, st, xs, s, e => by unfold evs at e; cases e; rfl
  | .cons a es, env, st, xs, s, e => by
    unfold evs at e
    cases q : ev c a env st with
    | ok x s1 =>
      rw [q] at e
      have e' : ((evs c es env s1).bind fun xs s => .ok (x :: xs) s) = .ok xs s := e
      cases q2 : evs c es env s1 with
      | ok ys s2 =>
        rw [q2] at e'
        have e2 : (Res.ok (x :: ys) s2 : Res (List D)) = .ok xs s := e'
        cases e2
        show ys.length + 1 = lenEs es + 1
        rw [evs_len es env s1 ys _ q2]
      | exc => rw [q2] at e'; cases e'
      | bad => rw [q2] at e'; cases e'
    | exc => rw [q] at e; cases e
    | bad => rw [q] at e; cases e
theorem ses_nil : SEs T N c sc hot k .nil := by
  intro X W hX tk
  exact pa_nil.imp fun σ H Q ⟨w, env, st, e, hs, he, p⟩ => by subst e; unfold evs at p; exact p w _ (Ext.refl w) hs .nil
theorem ses_cons {a : E} {es : Es} (ha : SE T N c sc hot k a) (hes : SEs T N c sc hot k es) : SEs T N c sc hot k (.cons a es) := by
  intro X W hX tk
  refine (pa_cons (ha X W hX tk) (hes X W hX tk) (py_starEach _ _ _)).imp fun σ H Q ⟨w, env, st, e, hs, he, p⟩ => ?_
  subst e
  unfold evs at p
  refine (tR_bind hs he p).mono fun x H1 ⟨w1, d, st1, q⟩ => ?_
  obtain ⟨h1, x1, s1, e1, v1, _, p1⟩ := q
  subst h1
  refine (tR_bind s1 e1 p1).mono fun xs H2 ⟨w2, ds, st2, q2⟩ => ?_
  obtain ⟨h2, x2, s2, e2, v2, _, p2⟩ := q2
  subst h2
  exact p2 w2 _ (Ext.refl w2) s2 (.cons (v1.mono x2) v2)
theorem so_no : SO' T N c sc hot k .no := by
  intro X W hX tk
  refine ⟨fun pins s σ H Q I ⟨w, env, st, e, hs, he, p⟩ => ?_⟩
  subst e
  unfold evO at p
  exact po_none.run pins s σ _ Q I (p w _ (Ext.refl w) hs rfl)
theorem so_yes {a : E} (ha : SE T N c sc hot k a) : SO' T N c sc hot k (.yes a) := by
  intro X W hX tk
  refine ⟨fun pins s σ H Q I ⟨w, env, st, e, hs, he, p⟩ => ?_⟩
  subst e
  unfold evO at p
  refine (po_some (ha X W hX tk)).run pins s σ _ Q I ?_
  refine (tR_bind hs he p).mono fun x H1 ⟨w1, d, st1, q⟩ => ?_
  obtain ⟨h1, x1, s1, e1, v1, _, p1⟩ := q
  subst h1
  cases v1 with
  | int i => exact ⟨i, rfl, p1 w1 _ (Ext.refl w1) s1 rfl⟩
  | _ => exact p1.elim
theorem slcD_noexc {m : Bool} {a : D} {l h : Option Int} {st : St} : ∀ k as s, slcD m a l h st ≠ .exc k as s := by
  intro k as s e
  unfold slcD at e
  split at e
  · cases e
  · cases e
  · split at e
    · exact mkL_noexc _ _ _ e
    · cases e
theorem se_slc {p p2 : Pos} {m : Bool} {a : E} {lo hi : O} (ha : SE T N c sc hot k a) (hl : SO' T N c sc hot k lo) (hh : SO' T N c sc hot k hi) : SE T N c sc hot k (.slc p p2 m a lo hi) := by
  intro X W hX tk
  refine (pe_slice (sl_any hX.K (m := m)) (ha X W hX tk) (hl X W hX tk) (hh X W hX tk)).imp fun σ H Q ⟨w, env, st, e, hs, he, p⟩ => ?_
  subst e
  unfold ev at p
  refine (tR_bind hs he p).mono fun x H1 ⟨w1, d, st1, q⟩ => ?_
  obtain ⟨h1, x1, s1, e1, v1, _, p1⟩ := q
  subst h1
  refine (tR_bind s1 e1 p1).mono fun l H2 ⟨w2, l', st2, q2⟩ => ?_
  obtain ⟨h2, x2, s2, e2, v2, _, p2⟩ := q2
  subst h2 v2
  refine (tR_bind s2 e2 p2).mono fun u H3 ⟨w3, u', st3, q3⟩ => ?_
  obtain ⟨h3, x3, s3, e3, v3, _, p3⟩ := q3
  subst h3 v3
  exact ⟨w3, d, st3, rfl, s3, v1.mono (x2.trans x3), p3.ok1 slcD_noexc⟩
end
end MP
set_option linter.all false
set_option maxRecDepth 100000
set_option maxHeartbeats 4000000
/-! M8: tests, truth, built-ins, fields. -/
namespace MP
open PySem PySem.Spec PyProof.Rows L2
section
variable {T : Tg'} {N : List Str} {nG : Nat} {ps : Nat → List Str} {c : Cfg} {sc : Scope} {hot : Ho} {k : Nat} {X : Cx} {W : WX}
abbrev Eqp {α : Type} : Rp α α := fun _ b q => b = q
def ST (T : Tg') (N : List Str) (c : Cfg) (sc : Scope) (hot : Ho) (k : Nat) (e : E) : Prop :=
  ∀ X W, XO T N sc hot k X → L2N.Takes X W → PT X (e.py T.nm N) (tR T Eqp W (evT c e))
def plainT : E → Bool
  | .ifx .. => false
  | .frz _ => false
  | .not .. => false
  | .and .. => false
  | .or .. => false
  | .cmp .. => false
  | .chain .. => false
  | _ => true
theorem st_plain {e : E} (h : plainT e = true) (hs : SE T N c sc hot k e) : ST T N c sc hot k e := by
  intro X W hX tk
  have he : ∀ whole, isTrue (e.py T.nm N) X.env whole = (do let v ← whole; standAt (e.py T.nm N).pos; holding [v] (truthy v)) := by
    intro whole
    cases e <;> first | rfl | cases h
  refine (pt_truth (hs X W hX tk) he).imp fun σ H Q ⟨w, env, st, e, hs', he', p⟩ => ?_
  subst e
  unfold evT at p
  refine (tR_bind hs' he' p).mono fun x H1 ⟨w1, d, st1, q⟩ => ?_
  obtain ⟨h1, x1, s1, e1, v1, _, p1⟩ := q
  subst h1
  obtain ⟨b, e3, p3⟩ := ofO_some p1
  exact ⟨b, by rw [hX.K]; exact tru_of s1 v1 e3, p3 w1 _ (Ext.refl w1) s1 rfl⟩
/-- a comparison's value is a truth -/
theorem bool_of {w : Wd} {σ : L2.St} {Q : Bool → Hp → Prop} {b : Bool} {st : St} (hs : RS' T.T w st) (p : Po T Eqp w W σ Q (tstD (.bl b) st)) : Q b w.H := p w _ (Ext.refl w) hs rfl
theorem bind_assoc' {α β γ : Type} (r : Res α) (f : α → St → Res β) (g : β → St → Res γ) : (r.bind f).bind g = r.bind fun a s => (f a s).bind g := by
  cases r <;> rfl
theorem st_cmp {p : Pos} {o : COp} {a b : E} (h : okE T.nm nG N hot sc (.cmp p o a b) = true) (ha : SE T N c sc hot k a) (hb : SE T N c sc hot k b) : ST T N c sc hot k (.cmp p o a b) := by
  intro X W hX tk
  have hm : behindInMarks o.py (b.py T.nm N) = false := by
    unfold okE at h
    rw [Bool.and_eq_true] at h
    cases o with
    | mem => exact Bool.not_eq_true' _ |>.mp h.2
    | nmem => exact Bool.not_eq_true' _ |>.mp h.2
    | _ => exact nomark _
  refine (pt_cmpR (op_cmp hX.K (by have := hX.units; omega) o) (ha X W hX tk) (hb X W hX tk) hm).imp fun σ H Q ⟨w, env, st, e, hs, he, p⟩ => ?_
  subst e
  unfold evT ev at p
  rw [bind_assoc'] at p
  have p' : Po T Eqp w W σ Q ((ev c a env st).bind fun x s => (ev c b env s).bind fun y s => (ofO ((cmpD s o x y).map .bl) s).bind tstD) := by
    have e : (fun (x : D) (s : St) => ((ev c b env s).bind fun y s => ofO ((cmpD s o x y).map D.bl) s).bind tstD) = fun x s => (ev c b env s).bind fun y s => (ofO ((cmpD s o x y).map .bl) s).bind tstD := by
      funext x s; rw [bind_assoc']
    rw [e] at p; exact p
  refine (tR_two hs he p').mono fun x H1 q => q.mono fun y H2 ⟨w2, d1, d2, st2, h2, x2, s2, e2, v1, v2, p2⟩ => ?_
  subst h2
  cases e4 : cmpD st2 o d1 d2 with
  | none => rw [e4] at p2; exact p2.elim
  | some b => rw [e4] at p2; exact ⟨w2, d1, d2, st2, b, rfl, s2, v1, v2, e4, b, rfl, bool_of s2 p2⟩
theorem st_chain {p : Pos} {o o' : COp} {a b d : E} (h : okE T.nm nG N hot sc (.chain p o o' a b d) = true) (ha : SE T N c sc hot k a) (hb : SE T N c sc hot k b) (hd : SE T N c sc hot k d) : ST T N c sc hot k (.chain p o o' a b d) := by
  intro X W hX tk
  have hm : lastMarks [o.py, o'.py] [b.py T.nm N, d.py T.nm N] = false := by
    unfold okE at h
    rw [Bool.and_eq_true] at h
    exact Bool.not_eq_true' _ |>.mp h.2
  have hu : X.A.units + 64 < cLine := by have := hX.units; omega
  refine (pt_chain (op_cmp hX.K hu o) (op_cmp hX.K hu o') (ha X W hX tk) (hb X W hX tk) (hd X W hX tk) hm).imp fun σ H Q ⟨w, env, st, e, hs, he, p⟩ => ?_
  subst e
  unfold evT ev at p
  rw [bind_assoc'] at p
  have e : (fun (x : D) (s : St) => ((ev c b env s).bind fun y s => (ofO (cmpD s o x y) s).bind fun q s => if q = true then (ev c d env s).bind fun z s => ofO ((cmpD s o' y z).map D.bl) s else .ok (.bl false) s).bind tstD) =
      fun x s => (ev c b env s).bind fun y s => ((ofO (cmpD s o x y) s).bind fun q s => if q = true then (ev c d env s).bind fun z s => ofO ((cmpD s o' y z).map D.bl) s else .ok (.bl false) s).bind tstD := by
    funext x s; rw [bind_assoc']
  rw [e] at p
  refine (tR_two hs he p).mono fun x H1 q => q.mono fun y H2 ⟨w2, d1, d2, st2, h2, x2, s2, e2, v1, v2, p2⟩ => ?_
  subst h2
  cases e4 : cmpD st2 o d1 d2 with
  | none => rw [e4] at p2; exact p2.elim
  | some q =>
    rw [e4] at p2
    refine ⟨w2, d1, d2, st2, q, rfl, s2, v1, v2, e4, q, rfl, ?_⟩
    cases q with
    | false => exact ⟨false, rfl, bool_of s2 p2⟩
    | true =>
      have p3 : Po T Eqp w2 W σ Q (((ev c d env st2).bind fun z s => ofO ((cmpD s o' d2 z).map .bl) s).bind tstD) := p2
      rw [bind_assoc'] at p3
      show tR T (RVp T) W (ev c d) σ w2.H _
      refine (tR_bind s2 e2 p3).mono fun z H3 ⟨w3, d3, st3, q3⟩ => ?_
      obtain ⟨h3, x3, s3, e3, v3, _, p4⟩ := q3
      subst h3
      cases e6 : cmpD st3 o' d2 d3 with
      | none => rw [e6] at p4; exact p4.elim
      | some b => rw [e6] at p4; exact ⟨w3, d2, d3, st3, b, rfl, s3, v2.mono x3, v3, e6, b, rfl, bool_of s3 p4⟩
theorem st_not {p : Pos} {a : E} (ha : ST T N c sc hot k a) : ST T N c sc hot k (.not p a) := by
  intro X W hX tk
  refine (pt_not (ha X W hX tk)).imp fun σ H Q ⟨w, env, st, e, hs, he, p⟩ => ?_
  subst e
  unfold evT ev at p
  rw [bind_assoc'] at p
  have p' : Po T Eqp w W σ Q ((evT c a env st).bind fun b s => tstD (.bl (!b)) s) := p
  refine (tR_bind hs he p').mono fun b H1 ⟨w1, b', st1, q⟩ => ?_
  obtain ⟨h1, x1, s1, e1, v1, _, p1⟩ := q
  subst h1 v1
  exact bool_of s1 p1
theorem se_not {p : Pos} {a : E} (ha : SE T N c sc hot k a) : SE T N c sc hot k (.not p a) := by
  intro X W hX tk
  refine (pe_notT (ha X W hX tk)).imp fun σ H Q ⟨w, env, st, e, hs, he, p⟩ => ?_
  subst e
  unfold ev at p
  rw [bind_assoc'] at p
  refine (tR_bind hs he p).mono fun x H1 ⟨w1, d, st1, q⟩ => ?_
  obtain ⟨h1, x1, s1, e1, v1, _, p1⟩ := q
  subst h1
  cases e3 : truth st1 d with
  | none => unfold tstD at p1; rw [e3] at p1; exact p1.elim
  | some b =>
    unfold tstD at p1
    rw [e3] at p1
    exact ⟨b, by rw [hX.K]; exact tru_of s1 v1 e3, ok_rv s1 (.bl _) p1⟩
/-- and, or -/
theorem se_and1 {p : Pos} {a : E} (ha : SE T N c sc hot k a) : SE T N c sc hot k (.and p (.cons a .nil)) := by
  intro X W hX tk
  refine (pe_one (ha X W hX tk)).imp fun σ H Q ⟨w, env, st, e, hs, he, p⟩ => ?_
  unfold ev evAnd at p
  exact ⟨w, env, st, e, hs, he, p⟩
theorem se_or1 {p : Pos} {a : E} (ha : SE T N c sc hot k a) : SE T N c sc hot k (.or p (.cons a .nil)) := by
  intro X W hX tk
  refine (pe_one (ha X W hX tk)).imp fun σ H Q ⟨w, env, st, e, hs, he, p⟩ => ?_
  unfold ev evOr at p
  exact ⟨w, env, st, e, hs, he, p⟩
theorem se_and2 {p : Pos} {a b : E} {es : Es} (ha : SE T N c sc hot k a) (hb : SE T N c sc hot k (.and p (.cons b es))) : SE T N c sc hot k (.and p (.cons a (.cons b es))) := by
  intro X W hX tk
  refine (pe_and (ha X W hX tk) (hb X W hX tk)).imp fun σ H Q ⟨w, env, st, e, hs, he, p⟩ => ?_
  subst e
  unfold ev evAnd at p
  refine (tR_bind hs he p).mono fun x H1 ⟨w1, d, st1, q⟩ => ?_
  obtain ⟨h1, x1, s1, e1, v1, _, p1⟩ := q
  subst h1
  cases v1 with
  | bl b =>
    refine ⟨b, rfl, ?_⟩
    cases b with
    | true => exact ⟨w1, env, st1, rfl, s1, e1, by unfold ev; exact p1⟩
    | false => exact ok_rv s1 (.bl _) p1
  | _ => exact p1.elim
theorem se_or2 {p : Pos} {a b : E} {es : Es} (ha : SE T N c sc hot k a) (hb : SE T N c sc hot k (.or p (.cons b es))) : SE T N c sc hot k (.or p (.cons a (.cons b es))) := by
  intro X W hX tk
  refine (pe_or (ha X W hX tk) (hb X W hX tk)).imp fun σ H Q ⟨w, env, st, e, hs, he, p⟩ => ?_
  subst e
  unfold ev evOr at p
  refine (tR_bind hs he p).mono fun x H1 ⟨w1, d, st1, q⟩ => ?_
  obtain ⟨h1, x1, s1, e1, v1, _, p1⟩ := q
  subst h1
  cases v1 with
  | bl b =>
    refine ⟨b, rfl, ?_⟩
    cases b with
    | false => exact ⟨w1, env, st1, rfl, s1, e1, by unfold ev; exact p1⟩
    | true => exact ok_rv s1 (.bl _) p1
  | _ => exact p1.elim
/-- .. as tests -/
def STw (T : Tg') (N : List Str) (c : Cfg) (sc : Scope) (hot : Ho) (k : Nat) (e : E) : Prop :=
  ∀ X W, XO T N sc hot k X → L2N.Takes X W → PW X (e.py T.nm N) (tR T Eqp W (evT c e))
theorem st_and1 {p : Pos} {a : E} (ha : ST T N c sc hot k a) : STw T N c sc hot k (.and p (.cons a .nil)) := by
  intro X W hX tk
  refine ⟨fun wh pins s σ H Q I ⟨w, env, st, e, hs, he, p⟩ => ?_⟩
  unfold evT ev evAnd at p
  exact (pw_and1 (ha X W hX tk)).run wh pins s σ H Q I ⟨w, env, st, e, hs, he, p⟩
theorem st_or1 {p : Pos} {a : E} (ha : ST T N c sc hot k a) : STw T N c sc hot k (.or p (.cons a .nil)) := by
  intro X W hX tk
  refine ⟨fun wh pins s σ H Q I ⟨w, env, st, e, hs, he, p⟩ => ?_⟩
  unfold evT ev evOr at p
  exact (pw_or1 (ha X W hX tk)).run wh pins s σ H Q I ⟨w, env, st, e, hs, he, p⟩
/-- a value that must be a truth: asked by the truth -/
theorem bl_bind {γ δ : Type} {rep2 : Rp δ γ} {w : Wd} {σ : L2.St} {R : δ → Hp → Prop} {r : Res D} {kk : D → St → Res γ} (h : ∀ d s, (∀ b, d ≠ .bl b) → kk d s = .bad) (p : Po T rep2 w W σ R (r.bind kk)) :
    Po T rep2 w W σ R ((r.bind tstD).bind fun b s => kk (.bl b) s) := by
  cases r with
  | ok d s =>
    by_cases hb : ∃ b, d = .bl b
    · obtain ⟨b, rfl⟩ := hb
      exact p
    · have e := h d s fun b z => hb ⟨b, z⟩
      have p' : Po T rep2 w W σ R (kk d s) := p
      rw [e] at p'
      exact p'.elim
  | exc k as s => exact p
  | bad => exact p
theorem st_and2 {p : Pos} {a b : E} {es : Es} (ha : ST T N c sc hot k a) (hb : STw T N c sc hot k (.and p (.cons b es))) : STw T N c sc hot k (.and p (.cons a (.cons b es))) := by
  intro X W hX tk
  refine ⟨fun wh pins s σ H Q I ⟨w, env, st, e, hs, he, p⟩ => (pw_and (ha X W hX tk) (hb X W hX tk)).run wh pins s σ H Q I ?_⟩
  subst e
  unfold evT ev evAnd at p
  rw [bind_assoc'] at p
  have p' := bl_bind (r := ev c a env st) (fun d s h => by cases d <;> first | rfl | exact absurd rfl (h _)) p
  have p2 : Po T Eqp w W σ Q ((evT c a env st).bind fun b' s => (match D.bl b' with
    | .bl true => evAnd c (.cons b es) env s
    | .bl false => .ok (.bl false) s
    | _ => .bad : Res D).bind tstD) := p'
  refine (tR_bind hs he p2).mono fun q H1 ⟨w1, b', st1, q1⟩ => ?_
  obtain ⟨h1, x1, s1, e1, v1, _, p1⟩ := q1
  subst h1 v1
  cases q with
  | true => exact ⟨w1, env, st1, rfl, s1, e1, by unfold evT ev; exact p1⟩
  | false => exact bool_of s1 p1
theorem st_or2 {p : Pos} {a b : E} {es : Es} (ha : ST T N c sc hot k a) (hb : STw T N c sc hot k (.or p (.cons b es))) : STw T N c sc hot k (.or p (.cons a (.cons b es))) := by
  intro X W hX tk
  refine ⟨fun wh pins s σ H Q I ⟨w, env, st, e, hs, he, p⟩ => (pw_or (ha X W hX tk) (hb X W hX tk)).run wh pins s σ H Q I ?_⟩
  subst e
  unfold evT ev evOr at p
  rw [bind_assoc'] at p
  have p' := bl_bind (r := ev c a env st) (fun d s h => by cases d <;> first | rfl | exact absurd rfl (h _)) p
  have p2 : Po T Eqp w W σ Q ((evT c a env st).bind fun b' s => (match D.bl b' with
    | .bl false => evOr c (.cons b es) env s
    | .bl true => .ok (.bl true) s
    | _ => .bad : Res D).bind tstD) := p'
  refine (tR_bind hs he p2).mono fun q H1 ⟨w1, b', st1, q1⟩ => ?_
  obtain ⟨h1, x1, s1, e1, v1, _, p1⟩ := q1
  subst h1 v1
  cases q with
  | false => exact ⟨w1, env, st1, rfl, s1, e1, by unfold evT ev; exact p1⟩
  | true => exact bool_of s1 p1
theorem se_ifx {p : Pos} {t a b : E} (ht : ST T N c sc hot k t) (ha : SE T N c sc hot k a) (hb : SE T N c sc hot k b) : SE T N c sc hot k (.ifx p t a b) := by
  intro X W hX tk
  refine (pe_ifExp (ht X W hX tk) (ha X W hX tk) (hb X W hX tk)).imp fun σ H Q ⟨w, env, st, e, hs, he, p⟩ => ?_
  subst e
  unfold ev at p
  have p' : Po T (RVp T) w W σ Q ((evT c t env st).bind fun q s => if q = true then ev c a env s else ev c b env s) := p
  refine (tR_bind hs he p').mono fun q H1 ⟨w1, b', st1, q1⟩ => ?_
  obtain ⟨h1, x1, s1, e1, v1, _, p1⟩ := q1
  subst h1 v1
  cases q with
  | true => exact ⟨w1, env, st1, rfl, s1, e1, p1⟩
  | false => exact ⟨w1, env, st1, rfl, s1, e1, p1⟩

/-! ### built-ins -/
theorem biD_noexc {b : Bi} {m : Bool} {as : List D} {st : St} : ∀ k xs s, biD b m as st ≠ .exc k xs s := by
  intro k xs s e
  unfold biD mkL ofO at e
  repeat' split at e
  all_goals cases e
theorem cls_type : ∀ b : Bi, b = .gcd ∨ ((∃ id, b.val = .builtin id) ∧ bootBuiltins b.py = some b.val ∧ b.py ∈ builtinNames) ∨ ((∃ id, b.val = .type id) ∧ bootBuiltins b.py = some b.val ∧ b.py ∈ builtinNames) := by
  intro b
  cases b with
  | gcd => exact .inl rfl
  | len => exact .inr (.inl ⟨⟨_, rfl⟩, by decide +kernel, by decide +kernel⟩)
  | abs => exact .inr (.inl ⟨⟨_, rfl⟩, by decide +kernel, by decide +kernel⟩)
  | max2 => exact .inr (.inl ⟨⟨_, rfl⟩, by decide +kernel, by decide +kernel⟩)
  | min2 => exact .inr (.inl ⟨⟨_, rfl⟩, by decide +kernel, by decide +kernel⟩)
  | max1 => exact .inr (.inl ⟨⟨_, rfl⟩, by decide +kernel, by decide +kernel⟩)
  | min1 => exact .inr (.inl ⟨⟨_, rfl⟩, by decide +kernel, by decide +kernel⟩)
  | sum1 => exact .inr (.inl ⟨⟨_, rfl⟩, by decide +kernel, by decide +kernel⟩)
  | int1 => exact .inr (.inr ⟨⟨_, rfl⟩, by decide +kernel, by decide +kernel⟩)
  | str1 => exact .inr (.inr ⟨⟨_, rfl⟩, by decide +kernel, by decide +kernel⟩)
  | tuple1 => exact .inr (.inr ⟨⟨_, rfl⟩, by decide +kernel, by decide +kernel⟩)
  | list1 => exact .inr (.inr ⟨⟨_, rfl⟩, by decide +kernel, by decide +kernel⟩)
  | bool1 => exact .inr (.inr ⟨⟨_, rfl⟩, by decide +kernel, by decide +kernel⟩)
theorem names_ok : ∀ x ∈ builtinNames, x ≠ ("__name__" : Str) ∧ (x == ("__debug__" : Str)) = false := by decide +kernel
theorem se_bi (O : TxOk T nG ps) {p q : Pos} {b : Bi} {m : Bool} {es : Es} (h : okE T.nm nG N hot sc (.bi p q b m es) = true) (hes : SEs T N c sc hot k es) : SE T N c sc hot k (.bi p q b m es) := by
  intro X W hX tk
  unfold okE at h
  simp only [Bool.and_eq_true, Bool.not_eq_true', decide_eq_true_eq] at h
  obtain ⟨⟨⟨h1, h2⟩, h3⟩, h4⟩ := h
  have hc := hX.calm h1
  obtain ⟨g1, g2⟩ := hX.gl h2
  cases es with
  | nil => cases h4
  | cons e es =>
    have ha := hes X W hX tk
    have hpl := es_plain (T := T) (N := N) es X.env p
    have hst := py_starEach (T := T) (N := N) e (es.py T.nm N) X.env
    have fin : ∀ {σ : L2.St} {H : Hp} {Q : VK}, tR T (RVp T) W (ev c (.bi p q b m (.cons e es))) σ H Q → tCB (rBi T b m) (tR T (fun w v d => RVs T.T w v d) W (evs c (.cons e es))) σ H Q := by
      intro σ H Q ⟨w, env, st, e, hs, he, p⟩
      subst e
      unfold ev at p
      refine (tR_bind hs he p).mono fun vs H1 ⟨w1, ds, st1, q⟩ => ?_
      obtain ⟨h1, x1, s1, e1, v1, _, p1⟩ := q
      exact ⟨w1, ds, st1, h1, s1, v1, p1.ok1 biD_noexc⟩
    have hcall := call_bi hX.K hc b (m := m)
    rcases cls_type b with z | ⟨⟨id, z⟩, z2, z3⟩ | ⟨⟨id, z⟩, z2, z3⟩
    · subst z
      have hm : X.mg Bi.gcd.py = some (.builtin "math.gcd") := by rw [hX.mg]; exact O.gcd
      exact (pe_callBfun hcall g1 hm ha g2 hst hpl).imp fun _ _ _ => fin
    · rw [z] at hcall z2
      exact (pe_callB hcall g1 (by rw [hX.mg]; exact O.free _ z3) z2 ha (names_ok _ z3).1 g2 hst hpl).imp fun _ _ _ => fin
    · rw [z] at hcall z2
      exact (pe_callTy hcall g1 (by rw [hX.mg]; exact O.free _ z3) z2 ha (names_ok _ z3).1 g2 hst hpl).imp fun _ _ _ => fin
end
end MP
set_option linter.all false
set_option maxRecDepth 100000
set_option maxHeartbeats 4000000
/-! M9: calls, methods, instances, attributes. -/
namespace MP
open PySem PySem.Spec PyProof.Rows L2
/-- what the text's classes and fields are known to hold -/
structure ClOk (T : Tg') : Prop where
  inj : ∀ f g, T.T.fld f = T.T.fld g → f = g
  noat : ∀ c f, T.P.isF c f = true → Cls T.T.K (T.T.ca c) ∧ NoAttr T.T.K (T.T.ca c) (T.T.fld f)
  prop : ∀ c f, T.P.prop c f = none
structure CfOk (T : Tg') (c : Cfg) : Prop where
  init : c.init = T.P.init
  meth : c.meth = T.P.meth
  prop : c.prop = T.P.prop
  frozen : c.frozen = T.P.frozen
  isF : c.isF = T.P.isF
  glob : c.glob = T.P.glob
  exf : c.exf = T.P.exf
  exat : c.exat = T.P.exat
  sub : c.sub = T.P.sub
section
variable {T : Tg'} {N : List Str} {nG : Nat} {ps : Nat → List Str} {c : Cfg} {sc : Scope} {hot : Ho} {k : Nat} {X : Cx} {W : WX}
theorem fs_lookup {w : Wd} (inj : ∀ f g, T.T.fld f = T.T.fld g → f = g) : ∀ {vs : List (Str × V)} {fs : List (Nat × D)} (f : Nat), RFs T.T w vs fs →
    (fs.lookup f = none ∧ vs.lookup (T.T.fld f) = none) ∨ ∃ d v, fs.lookup f = some d ∧ vs.lookup (T.T.fld f) = some v ∧ RV T.T w v d
  | _, _, f, .nil => .inl ⟨rfl, rfl⟩
  | _, _, f, .cons (f := g) (v := v) (d := d) h r => by
    rw [List.lookup_cons, List.lookup_cons]
    by_cases e : f = g
    · subst e
      rw [beq_self_eq_true, beq_self_eq_true]
      exact .inr ⟨d, v, rfl, rfl, h⟩
    · have e1 : (f == g) = false := by simpa using e
      have e2 : (T.T.fld f == T.T.fld g) = false := by
        rw [Bool.eq_false_iff]
        intro z
        exact e (inj _ _ (by simpa using z))
      rw [e1, e2]
      exact fs_lookup inj f r
/-- an instance's place -/
theorem ins_at {w : Wd} {st : St} {v : V} {d : D} {cl : Nat} (hs : RS' T.T w st) (h : RV T.T w v d) (e : clsD st d = some cl) :
    ∃ a dx vs fs, v = .ref a ∧ w.H a = some (.ins (T.T.ca cl) dx vs) ∧ RFs T.T w vs fs ∧ ∀ f, fldD st d f = fs.lookup f := by
  cases h with
  | @obj a dx cc vs fs h hf r => cases e; exact ⟨a, dx, vs, fs, rfl, h, r, fun _ => rfl⟩
  | @ref i h =>
    unfold clsD at e
    dsimp only at e
    cases q : st[i]? with
    | none => rw [q] at e; cases e
    | some o =>
      rw [q] at e
      cases o with
      | ins cc fs =>
        cases e
        obtain ⟨dx, vs, g1, g2, _⟩ := hs.ob i _ q
        exact ⟨_, dx, vs, fs, rfl, g1, g2, fun f => by unfold fldD; dsimp only; rw [q]⟩
      | _ => cases e
  | _ => cases e
theorem call_gen {f : Addr} {x : Str} {p pos : Pos} {e : Expr} {es : List Expr} {t : TA} (hg : Gl X x) (hm : X.mg x = some (.ref f)) (hk : PySem.W.keepIn X.K (.ref f) = true) (ha : PA X (e :: es) t)
    (hdb : (x == ("__debug__" : Str)) = false) (he : starEach (e :: es) X.env = (false, eval e X.env) :: starEach es X.env) (hpl : (backTo pos (starEach es X.env)).any (·.1) = false) :
    PE X (.Call (.Name x p) (e :: es) [] pos) (fun σ H Q => t σ H fun vs H1 => ∀ pins s us, Inv X pins σ H1 s → Vals vs us → wpAny (model X.prog X.w) X.A (call (.ref f) us) (EP X pins σ Q) X.xe s) := by
  refine ⟨fun pins s σ H Q I h => ?_⟩
  refine wpAny_Call_Name_kw (ld_glob I hg hm ?_ hdb)
  exact PySem.W.callWith_K (h₀ := X.base) I.ok.mod.kin hk (thn (ha.run pos pins s σ H _ I h) fun us s1 ⟨vs, H1, I1, r, q⟩ => ⟨I1.kIn, q pins s1 us I1 r⟩) he hpl
theorem call_gen0 {f : Addr} {x : Str} {p pos : Pos} (hg : Gl X x) (hm : X.mg x = some (.ref f)) (hk : PySem.W.keepIn X.K (.ref f) = true) (hdb : (x == ("__debug__" : Str)) = false) :
    PE X (.Call (.Name x p) [] [] pos) (fun σ H Q => ∀ pins s, Inv X pins σ H s → wpAny (model X.prog X.w) X.A (call (.ref f) []) (EP X pins σ Q) X.xe s) := by
  refine ⟨fun pins s σ H Q I h => ?_⟩
  refine wpAny_Call_Name_kw (ld_glob I hg hm ?_ hdb)
  exact PySem.W.callWith_K0 I.kIn hk (h pins s I)
theorem run_call (O : TxOk T nG ps) (C : CallOk T ps c k) (hX : XO T N sc hot (k + 1) X) (hh : hot.h = false) (tk : L2N.Takes X W) {f : Nat} {w : Wd} {ds : List D} {st : St} {vs : List V} {us : List Value} {Q : VK} {σ : L2.St} {pins : List (Addr × Obj)} {s : Shared}
    (I : Inv X pins σ w.H s) (r : Vals vs us) (hs : RS' T.T w st) (rv : RVs T.T w vs ds) (p : Po T (RVp T) w W σ Q (c.call f ds st)) : wpAny (model X.prog X.w) X.A (call (.ref (T.T.fa f)) us) (EP X pins σ Q) X.xe s := by
  cases hf : T.P.fns[f]? with
  | none => rw [C.none f hf] at p; exact p.elim
  | some F =>
    obtain ⟨run, e, FO⟩ := C.some f F hf
    rw [e] at p
    cases hl : filled F ds with
    | none => rw [hl] at p; exact p.elim
    | some as =>
      rw [hl] at p
      unfold filled at hl
      by_cases hc : ds.length ≤ F.np ∧ F.np - ds.length ≤ F.dfl.length
      · rw [if_pos hc] at hl
        cases hl
        obtain ⟨dvs, us2, b1, b2, b3⟩ := O.bind f F hf _ hc.2
        rw [← hX.prog, ← hX.w, ← hX.K, ← hX.mg, ← hX.base] at FO
        refine run_fnSD (E := fun σ => WE W σ) FO ((hX.room hh).mono (Nat.le_succ k)) (by rw [hX.K]; exact b1) b2 (L2N.passAt tk σ) I r ?_
        refine ⟨w, ds ++ F.dfl.drop (F.dfl.length - (F.np - ds.length)), st, rfl, hs, rv.append (b3 w), ?_, p⟩
        rw [(rv.append (b3 w)).length, List.length_append, List.length_drop]
        omega
      · rw [if_neg hc] at hl; cases hl
theorem se_call (O : TxOk T nG ps) (C : CallOk T ps c k) {p q : Pos} {f : Nat} {es : Es} (h : okE T.nm nG N hot sc (.call p q f es) = true) (hf : (T.P.fns[f]?).isSome = true) (hes : SEs T N c sc hot (k + 1) es) : SE T N c sc hot (k + 1) (.call p q f es) := by
  intro X W hX tk
  unfold okE at h
  simp only [Bool.and_eq_true, Bool.not_eq_true', decide_eq_true_eq] at h
  obtain ⟨⟨⟨h1, h2⟩, h3⟩, h4⟩ := h
  obtain ⟨g1, g2⟩ := hX.gl h2
  obtain ⟨F, hF⟩ := Option.isSome_iff_exists.mp hf
  have hm : X.mg (T.nm.fn f) = some (.ref (T.T.fa f)) := by rw [hX.mg]; exact O.fnG f h3
  have hk : PySem.W.keepIn X.K (.ref (T.T.fa f)) = true := by rw [hX.K]; exact O.keep f F hF
  cases es with
  | nil =>
    refine (call_gen0 g1 hm hk g2).imp fun σ H Q ⟨w, env, st, e, hs, he, p⟩ => ?_
    subst e
    intro pins s I
    unfold ev evs at p
    exact run_call O C hX h1 tk I .nil hs .nil p
  | cons e es =>
    refine (call_gen g1 hm hk (hes X W hX tk) g2 (py_starEach _ _ _) (es_plain es X.env p)).imp fun σ H Q ⟨w, env, st, e, hs, he, p⟩ => ?_
    subst e
    unfold ev at p
    refine (tR_bind hs he p).mono fun vs H1 ⟨w1, ds, st1, q⟩ => ?_
    obtain ⟨h1', x1, s1, e1, v1, _, p1⟩ := q
    subst h1'
    exact fun pins s us I r => run_call O C hX h1 tk I r s1 v1 p1

/-! ### methods -/
theorem meth_gen {m : Str} {o e : Expr} {es : List Expr} {ta : TE} {t : TA} {p pos apos : Pos} {pl : Sem Bool} (he : PE X o ta) (ha : PA X (e :: es) t)
    (hst : starEach (e :: es) X.env = (false, eval e X.env) :: starEach es X.env) (hpl : (backTo pos (starEach es X.env)).any (·.1) = false)
    (ht : eval (.Call (.Attribute o m apos) (e :: es) [] pos) X.env = (do
      let ov ← eval o X.env
      standAt apos.atName
      let (f, first) ← holding [ov] (getMethod ov m pl)
      callWith pos f first (backTo pos (starEach (e :: es) X.env)) (backToKw pos (keywordEach [] X.env)))) :
    PE X (.Call (.Attribute o m apos) (e :: es) [] pos) (fun σ H Q => ta σ H fun x H1 => ∃ a C dx fs f, x = .ref a ∧ H1 a = some (.ins C dx fs) ∧ Cls X.K C ∧ Meth X.K C m f ∧ fs.lookup m = none ∧
      t σ H1 fun vs H2 => ∀ pins s us, Inv X pins σ H2 s → Vals vs us → wpAny (model X.prog X.w) X.A (call (.ref f) (.ref a :: us)) (EP X pins σ Q) X.xe s) := by
  refine ⟨fun pins s σ H Q I h => ?_⟩
  refine PySem.W.methodCall_KW (pl := pl) (thn (he.run pins s σ H _ I h) fun u s1 ⟨x, H1, I1, rx, a, C, dx, fs, f, ex, ea, c, hm, l, q⟩ => ?_) ht
  subst ex
  obtain rfl : u = Value.ref a := rx
  refine getmeth_ok I1 ea c hm l ?_
  exact PySem.W.callWith_K (first := [.ref a]) (h₀ := X.base) I.ok.mod.kin hm.kp (thn (ha.run pos pins s1 σ H1 _ I1 q) fun us s2 ⟨vs, H2, I2, r, q2⟩ => ⟨I2.kIn, q2 pins s2 us I2 r⟩) hst hpl
theorem meth_gen0 {m : Str} {o : Expr} {ta : TE} {p pos apos : Pos} {pl : Sem Bool} (he : PE X o ta)
    (ht : eval (.Call (.Attribute o m apos) [] [] pos) X.env = (do
      let ov ← eval o X.env
      standAt apos.atName
      let (f, first) ← holding [ov] (getMethod ov m pl)
      callWith pos f first (backTo pos (starEach [] X.env)) (backToKw pos (keywordEach [] X.env)))) :
    PE X (.Call (.Attribute o m apos) [] [] pos) (fun σ H Q => ta σ H fun x H1 => ∃ a C dx fs f, x = .ref a ∧ H1 a = some (.ins C dx fs) ∧ Cls X.K C ∧ Meth X.K C m f ∧ fs.lookup m = none ∧
      ∀ pins s, Inv X pins σ H1 s → wpAny (model X.prog X.w) X.A (call (.ref f) [.ref a]) (EP X pins σ Q) X.xe s) := by
  refine ⟨fun pins s σ H Q I h => ?_⟩
  refine PySem.W.methodCall_KW (pl := pl) (thn (he.run pins s σ H _ I h) fun u s1 ⟨x, H1, I1, rx, a, C, dx, fs, f, ex, ea, c, hm, l, q⟩ => ?_) ht
  subst ex
  obtain rfl : u = Value.ref a := rx
  refine getmeth_ok I1 ea c hm l ?_
  exact PySem.W.callWith_K0 (first := [.ref a]) I1.kIn hm.kp (q pins s1 I1)
theorem find_meth (O : TxOk T nG ps) (L : ClOk T) (Cc : CfOk T c) {w : Wd} {st : St} {v : V} {d : D} {f g : Nat} (hs : RS' T.T w st) (h : RV T.T w v d) (e : findM c d f st = some g) :
    ∃ a C dx fs, v = .ref a ∧ w.H a = some (.ins C dx fs) ∧ Cls T.T.K C ∧ Meth T.T.K C (T.nm.fld f) (T.T.fa g) ∧ fs.lookup (T.nm.fld f) = none := by
  unfold findM at e
  cases e1 : fldD st d f with
  | some _ => rw [e1] at e; cases e
  | none =>
    rw [e1] at e
    cases e2 : clsD st d with
    | none => rw [e2] at e; cases e
    | some cl =>
      rw [e2] at e
      have e3 : T.P.meth cl f = some g := by rw [← Cc.meth]; exact e
      obtain ⟨a, dx, vs, fs, rfl, g1, g2, g3⟩ := ins_at hs h e2
      obtain ⟨k1, k2⟩ := O.meth cl f g e3
      refine ⟨a, _, dx, vs, rfl, g1, k1, k2, ?_⟩
      rcases fs_lookup L.inj f g2 with ⟨_, q⟩ | ⟨d', v', q, _⟩
      · rw [← O.fldN]; exact q
      · rw [← g3, e1] at q; cases q
theorem se_meth (O : TxOk T nG ps) (L : ClOk T) (Cc : CfOk T c) (C : CallOk T ps c k) {p ap : Pos} {o : E} {f : Nat} {es : Es} (h : okE T.nm nG N hot sc (.meth p ap o f es) = true) (ho : SE T N c sc hot (k + 1) o) (hes : SEs T N c sc hot (k + 1) es) : SE T N c sc hot (k + 1) (.meth p ap o f es) := by
  intro X W hX tk
  unfold okE at h
  simp only [Bool.and_eq_true, Bool.not_eq_true', decide_eq_true_eq] at h
  obtain ⟨⟨⟨⟨⟨h1, h2⟩, h3⟩, h4⟩, h5⟩, h6⟩ := h
  have heq := mcall_eq (T := T) (N := N) o h4 (T.nm.fld f) ap p es X.env h6 h5
  cases es with
  | nil =>
    refine (meth_gen0 (p := p) (ho X W hX tk) heq).imp fun σ H Q ⟨w, env, st, e, hs, he, p⟩ => ?_
    subst e
    unfold ev at p
    refine (tR_bind hs he p).mono fun x H1 ⟨w1, d, st1, q⟩ => ?_
    obtain ⟨h1', x1, s1, e1, v1, _, p1⟩ := q
    subst h1'
    cases e2 : findM c d f st1 with
    | none => rw [e2] at p1; exact p1.elim
    | some g =>
      rw [e2] at p1
      dsimp only at p1
      unfold evs at p1
      obtain ⟨a, C', dx, fs, rfl, k1, k2, k3, k4⟩ := find_meth O L Cc s1 v1 e2
      refine ⟨a, C', dx, fs, _, rfl, k1, by rw [hX.K]; exact k2, by rw [hX.K]; exact k3, k4, fun pins s I => ?_⟩
      exact run_call O C hX h1 tk I (vs := [.ref a]) (.cons (show RelV (.ref a) (.ref a) from rfl) .nil) s1 (.cons v1 .nil) p1
  | cons a es =>
    refine (meth_gen (p := p) (ho X W hX tk) (hes X W hX tk) (py_starEach _ _ _) (es_plain es X.env p) heq).imp fun σ H Q ⟨w, env, st, e, hs, he, p⟩ => ?_
    subst e
    unfold ev at p
    refine (tR_bind hs he p).mono fun x H1 ⟨w1, d, st1, q⟩ => ?_
    obtain ⟨h1', x1, s1, e1, v1, _, p1⟩ := q
    subst h1'
    cases e2 : findM c d f st1 with
    | none => rw [e2] at p1; exact p1.elim
    | some g =>
      rw [e2] at p1
      dsimp only at p1
      obtain ⟨a, C', dx, fs, rfl, k1, k2, k3, k4⟩ := find_meth O L Cc s1 v1 e2
      refine ⟨a, C', dx, fs, _, rfl, k1, by rw [hX.K]; exact k2, by rw [hX.K]; exact k3, k4, ?_⟩
      refine (tR_bind s1 e1 p1).mono fun vs H2 ⟨w2, ds, st2, q2⟩ => ?_
      obtain ⟨h2', x2, s2, e3, v2, _, p2⟩ := q2
      subst h2'
      exact fun pins s us I r => run_call O C hX h1 tk I (vs := .ref a :: vs) (.cons (show RelV (.ref a) (.ref a) from rfl) r) s2 (.cons (v1.mono x2) v2) p2
/-! ### attributes -/
theorem fld_at (O : TxOk T nG ps) (L : ClOk T) (Cc : CfOk T c) {w : Wd} {st : St} {v : V} {d : D} {f : Nat} (hs : RS' T.T w st) (h : RV T.T w v d) {σ : L2.St} {Q : VK} (p : Po T (RVp T) w W σ Q (attrD c d f st)) :
    ∃ a C dx fs y, v = .ref a ∧ w.H a = some (.ins C dx fs) ∧ Cls T.T.K C ∧ NoAttr T.T.K C (T.nm.fld f) ∧ fs.lookup (T.nm.fld f) = some y ∧ Q y w.H := by
  have hx : ∀ k as, d ≠ .exc k as := by intro k as e; subst e; cases h
  have e0 : attrD c d f st = (match fldD st d f with
    | some d' => if (match clsD st d with | some k => c.isF k f | none => false) then .ok d' st else .bad
    | none => match clsD st d with
      | some k => match c.prop k f with
        | some fn => c.call fn [d] st
        | none => .bad
      | none => .bad) := by
    unfold attrD
    cases d <;> first | rfl | exact absurd rfl (hx _ _)
  rw [e0] at p
  cases e1 : fldD st d f with
  | none =>
    rw [e1] at p
    dsimp only at p
    cases e2 : clsD st d with
    | none => rw [e2] at p; exact p.elim
    | some cl =>
      rw [e2] at p
      dsimp only at p
      rw [Cc.prop, L.prop] at p
      exact p.elim
  | some d' =>
    rw [e1] at p
    dsimp only at p
    cases e2 : clsD st d with
    | none => rw [e2] at p; exact p.elim
    | some cl =>
      rw [e2] at p
      dsimp only at p
      by_cases e3 : c.isF cl f = true
      · rw [if_pos e3] at p
        obtain ⟨a, dx, vs, fs, rfl, g1, g2, g3⟩ := ins_at hs h e2
        rw [Cc.isF] at e3
        obtain ⟨k1, k2⟩ := L.noat cl f e3
        rcases fs_lookup L.inj f g2 with ⟨q, _⟩ | ⟨d2, y, q1, q2, q3⟩
        · rw [← g3, e1] at q; cases q
        · rw [← g3, e1] at q1
          cases q1
          exact ⟨a, _, dx, vs, y, rfl, g1, k1, by rw [← O.fldN]; exact k2, by rw [← O.fldN]; exact q2, ok_rv hs q3 p⟩
      · rw [if_neg e3] at p; exact p.elim
theorem se_attr (O : TxOk T nG ps) (L : ClOk T) (Cc : CfOk T c) {p : Pos} {o : E} {f : Nat} (h : okE T.nm nG N hot sc (.attr p o f) = true) (ho : SE T N c sc hot k o) : SE T N c sc hot k (.attr p o f) := by
  intro X W hX tk
  unfold okE at h
  rw [Bool.and_eq_true] at h
  refine (pe_fld (ho X W hX tk) (py_base o h.2 _ _)).imp fun σ H Q ⟨w, env, st, e, hs, he, p⟩ => ?_
  subst e
  unfold ev at p
  refine (tR_bind hs he p).mono fun x H1 ⟨w1, d, st1, q⟩ => ?_
  obtain ⟨h1, x1, s1, e1, v1, _, p1⟩ := q
  subst h1
  obtain ⟨a, C, dx, fs, y, q1, q2, q3, q4, q5, q6⟩ := fld_at O L Cc s1 v1 p1
  exact ⟨a, C, dx, fs, y, q1, q2, by rw [hX.K]; exact q3, by rw [hX.K]; exact q4, q5, q6⟩
/-! ### isinstance -/
def Ty.nm : Ty → String
  | .int => "int" | .bool => "bool" | .str => "str" | .tuple => "tuple" | .list => "list"
theorem ty_boot : ∀ t : Ty, bootBuiltins t.py = some (.type t.nm) ∧ t.py ∈ builtinNames := by
  intro t
  cases t <;> exact ⟨by decide +kernel, by decide +kernel⟩
theorem isT_of (hK : X.K = T.T.K) {w : Wd} {st : St} {v : V} {d : D} {t : Ty} {b : Bool} (hs : RS' T.T w st) (h : RV T.T w v d) (e : isT st d t = some b) :
    ∃ tv, TyX X.K w.H v tv ∧ PySem.W.kitOne X.K tv (.type t.nm) = some b := by
  cases h with
  | non => refine ⟨_, .base .non, ?_⟩; cases t <;> cases e <;> exact kit_ty (by decide +kernel)
  | bl b => refine ⟨_, .base (.bl b), ?_⟩; cases t <;> cases e <;> exact kit_ty (by decide +kernel)
  | int i => refine ⟨_, .base (.int i), ?_⟩; cases t <;> cases e <;> exact kit_ty (by decide +kernel)
  | str h => refine ⟨_, .base (.str _), ?_⟩; cases t <;> cases e <;> exact kit_ty (by decide +kernel)
  | @tup a vs xs h hl r =>
    have z : TyX X.K w.H (.ref a) (.type "tuple") := by
      rw [hK]
      rcases h.1 with (h1 | ⟨o, h1⟩) | ⟨o, _, _, h2, h3, _⟩
      · exact .base (.tup h1)
      · exact .fTuple h1
      · exact .kTuple h2 h3
    refine ⟨_, z, ?_⟩; cases t <;> cases e <;> exact kit_ty (by decide +kernel)
  | @lst a vs xs h hl r =>
    have z : TyX X.K w.H (.ref a) (.type "list") := by
      rcases h.1 with h1 | ⟨o, h1⟩
      · exact .base (.lst h1)
      · exact .base (.frz h1)
    refine ⟨_, z, ?_⟩; cases t <;> cases e <;> exact kit_ty (by decide +kernel)
  | obj h hf r => cases e
  | @ref i h =>
    unfold isT at e
    dsimp only at e
    cases q : st[i]? with
    | none => rw [q] at e; cases e
    | some o =>
      rw [q] at e
      cases o with
      | lst xs =>
        obtain ⟨_, vs, g1, _⟩ := hs.ob i _ q
        refine ⟨_, .base (.lst g1), ?_⟩; cases t <;> cases e <;> exact kit_ty (by decide +kernel)
      | _ => cases e
theorem se_isin (O : TxOk T nG ps) {p q : Pos} {a : E} {q2 : Pos} {t : Ty} (h : okE T.nm nG N hot sc (.isin p q a q2 t) = true) (ha : SE T N c sc hot k a) : SE T N c sc hot k (.isin p q a q2 t) := by
  intro X W hX tk
  unfold okE at h
  simp only [Bool.and_eq_true] at h
  obtain ⟨⟨h1, h2⟩, h3⟩ := h
  obtain ⟨g1, g2⟩ := hX.gl h1
  obtain ⟨g3, g4⟩ := hX.gl h2
  obtain ⟨b1, b2⟩ := ty_boot t
  have mem : ("isinstance" : Str) ∈ builtinNames := by decide +kernel
  have pt : PE X (.Name t.py q2) (tC (.ty t.nm)) := pe_bltn g3 (by rw [hX.mg]; exact O.free _ b2) b1 rfl (names_ok _ b2).1 g4
  refine (pe_callB call_isi g1 (by rw [hX.mg]; exact O.free _ mem) (by decide +kernel) (pa_cons (ha X W hX tk) (pa_cons pt pa_nil) (py_starEach _ _ _)) (by decide +kernel) g2 (py_starEach _ _ _)).imp fun σ H Q ⟨w, env, st, e, hs, he, p⟩ => ?_
  subst e
  unfold ev at p
  show tR T (RVp T) W (ev c a) σ w.H _
  refine (tR_bind hs he p).mono fun x H1 ⟨w1, d, st1, q⟩ => ?_
  obtain ⟨h1, x1, s1, e1, v1, _, p1⟩ := q
  subst h1
  obtain ⟨d2, e3, p3⟩ := ofO_some p1
  cases e4 : isT st1 d t with
  | none => rw [e4] at e3; cases e3
  | some b =>
    rw [e4] at e3
    cases e3
    obtain ⟨tv, z1, z2⟩ := isT_of hX.K s1 v1 e4
    exact ⟨x, .ty t.nm, tv, .type t.nm, b, rfl, .ty _, z1, z2, ok_rv s1 (.bl _) p3⟩
/-! ### making: what is raised wished for at the caller's slots -/
theorem run_makeS {CX : CXT} {C f : Addr} {fd : FuncData} {pa : List Str} {sp : Sp} {dvs : List V} {ds : List Value} {E : XK} {pins : List (Addr × Obj)} {σ : L2.St} {H : Hp} {s : Shared} {Q : VK} {us : List Value} {vs : List V} (M : Mk X.K C f) (F : FnOk X.prog X.w X.K X.mg X.base CX k f fd pa sp) (hr : Room (k + 1) X.A) (hb : Binds X.K fd pa ds) (hd : Vals dvs ds)
    (hx : PassesAt CX X σ E) (I : Inv X pins σ H s) (r : Vals vs us)
    (h : ∀ x dx, H x = none → H dx = none → dx ≠ x → sp (.ref x :: (vs ++ dvs)) (upd (upd H dx (.own x)) x (.ins C dx [])) (fun v H2 => v = .non ∧ Q (.ref x) H2) E) :
    wpAny (model X.prog X.w) X.A (call (.ref C) us) (EP X pins σ Q) X.xe s := by
  have hq := h (s.heap.objs.size + 1) s.heap.objs.size (I.hok.fresh (Nat.le_succ _)) (I.hok.fresh (Nat.le_refl _)) (Nat.ne_of_lt (Nat.lt_succ_self _))
  have I2 := Inv.made (C := C) I
  have r2 : Vals (V.ref (s.heap.objs.size + 1) :: (vs ++ dvs)) (Value.ref (s.heap.objs.size + 1) :: (us ++ ds)) := .cons rfl (r.append hd)
  have hl : (Value.ref (s.heap.objs.size + 1) :: us ++ ds).length = pa.length := by
    have e := r2.length
    rw [F.len _ _ _ _ hq] at e
    exact e.symm
  refine wpAny_call (make_map (f := f) I.kIn M.makes M.init (beq_iff_eq.mp M.fn) (codeAny_mono (F.run _ X.stack _ _ ⟨Value.ref (s.heap.objs.size + 1) :: us, []⟩ (Value.ref (s.heap.objs.size + 1) :: (us ++ ds)) _ _ E (hr.make C us [])
    (I2.env0.make C us []) (hb _ (Value.ref (s.heap.objs.size + 1) :: us) I2.kIn hl) r2 hq) fun r s' hq' => ?_))
  cases r with
  | error e => exact hx pins _ _ e s' I2 hq'
  | ok fl =>
    cases fl with
    | ret u =>
      obtain ⟨v, H', I3, rv, ev, q3⟩ := I2.after hq'
      subst ev
      exact ⟨rv, ⟨V.ref (s.heap.objs.size + 1), H', I3, rfl, q3⟩⟩
    | next => exact False.elim hq'
    | brk => exact False.elim hq'
    | cont => exact False.elim hq'
/-! ### methods of built-in types -/
theorem bmD_noexc {b : Bm} {m : Bool} {o : D} {as : List D} {st : St} : ∀ k xs s, bmD b m o as st ≠ .exc k xs s := by
  intro k xs s e
  unfold bmD ofO at e
  repeat' split at e
  all_goals cases e
theorem se_bm {p ap : Pos} {b : Bm} {m : Bool} {o : E} {es : Es} (h : okE T.nm nG N hot sc (.bm p ap b m o es) = true) (ho : SE T N c sc hot k o) (hes : SEs T N c sc hot k es) : SE T N c sc hot k (.bm p ap b m o es) := by
  intro X W hX tk
  unfold okE at h
  simp only [Bool.and_eq_true, decide_eq_true_eq] at h
  obtain ⟨⟨⟨⟨⟨h1, h2⟩, h3⟩, h4⟩, h5⟩, h6⟩ := h
  have hb : b = .append ∨ b = .index ∨ b = .pop0 ∨ b = .clear := by cases b <;> first | (simp; done) | cases h1
  · have hsl : Slot "list" b.py b.id := by
      rcases hb with rfl | rfl | rfl | rfl
      · exact PySem.F.slot_list_append
      · exact PySem.F.slot_list_index
      · exact PySem.F.slot_list_pop
      · exact PySem.F.slot_list_clear
    have hty : typeOf (.builtin b.id) = pure (.type "method_descriptor") := by
      rcases hb with rfl | rfl | rfl | rfl
      · exact PySem.F.type_list_append
      · exact PySem.F.type_list_index
      · exact PySem.F.type_list_pop
      · exact PySem.F.type_list_clear
    have rcv : ∀ {w : Wd} {st : St} {v : V} {d : D}, RS' T.T w st → RV T.T w v d → bmT b d st = true → tyV X.K "list" v w.H := by
      intro w st v d hs r e
      have e' : (lstOf st d).isSome = true := by rcases hb with rfl | rfl | rfl | rfl <;> exact e
      obtain ⟨xs, e2⟩ := Option.isSome_iff_exists.mp e'
      obtain ⟨a, vs, rfl, g1, g2, g3⟩ := lst_at hs r e2
      exact .inl ⟨rfl, vs, .inl g1⟩
    cases es with
    | nil =>
      refine (pe_bm0 PySem.F.plainAttrs_list hsl hty (mt_any (T := T) hX.K b (m := m)) (ho X W hX tk) (py_base o h4 _ _) h6).imp fun σ H Q ⟨w, env, st, e, hs, he, p⟩ => ?_
      subst e
      unfold ev at p
      refine (tR_bind hs he p).mono fun x H1 ⟨w1, d, st1, q⟩ => ?_
      obtain ⟨h1, x1, s1, e1, v1, _, p1⟩ := q
      subst h1
      by_cases e2 : bmT b d st1 = true
      · rw [if_pos e2] at p1
        unfold evs at p1
        exact ⟨rcv s1 v1 e2, w1, d, [], st1, rfl, s1, v1, .nil, Po.ok1 (r := bmD b m d [] st1) p1 bmD_noexc⟩
      · rw [if_neg e2] at p1; exact p1.elim
    | cons a es =>
      refine (pe_bm PySem.F.plainAttrs_list hsl hty (mt_any (T := T) hX.K b (m := m)) (ho X W hX tk) (hes X W hX tk) (py_base o h4 _ _) ?_ h6 (py_starEach _ _ _) (es_plain es X.env p)).imp fun σ H Q ⟨w, env, st, e, hs, he, p⟩ => ?_
      · have h1 := es_plain (T := T) (N := N) (.cons a es) X.env p
        have h2 : (backTo p (starEach ((Es.cons a es).py T.nm N) X.env)).all (fun x => !x.1) = true := by
          rw [List.all_eq_true]
          intro x hx
          have h3 := List.any_eq_false.mp h1 x hx
          simpa using h3
        have e0 : a.py T.nm N :: es.py T.nm N = (Es.cons a es).py T.nm N := rfl
        rw [e0, h2, es_len]
        exact decide_eq_true (by simp; omega)
      · subst e
        unfold ev at p
        refine (tR_bind hs he p).mono fun x H1 ⟨w1, d, st1, q⟩ => ?_
        obtain ⟨h1, x1, s1, e1, v1, _, p1⟩ := q
        subst h1
        by_cases e2 : bmT b d st1 = true
        · rw [if_pos e2] at p1
          refine ⟨rcv s1 v1 e2, ?_⟩
          refine (tR_bind s1 e1 p1).mono fun vs H2 ⟨w2, ds, st2, q2⟩ => ?_
          obtain ⟨h2', x2, s2, e3, v2, _, p2⟩ := q2
          exact ⟨w2, d, ds, st2, h2', s2, v1.mono x2, v2, Po.ok1 (r := bmD b m d ds st2) p2 bmD_noexc⟩
        · rw [if_neg e2] at p1; exact p1.elim

/-! ### instances -/
/-- an object at a place of its own -/
theorem Wd.oth_ext {w : Wd} {p : Addr} {o : HO} {st : St} (s : RS' T.T w st) (hp : w.H p = none) : Ext w (w.wr p o) :=
  ⟨⟨fun _ h => h, fun a h => by
    obtain ⟨u, e⟩ := s.there a h
    exact upd_ne (ne_of_none e hp), fun _ _ => rfl, Nat.le_refl _⟩, fun a h => ⟨h, by
    obtain ⟨u, e⟩ := (s.pv a h).2.1
    exact upd_ne (ne_of_none e hp)⟩⟩
theorem RS'.oth {w : Wd} {p : Addr} {o : HO} {st : St} (s : RS' T.T w st) (hp : w.H p = none) : RS' T.T (w.wr p o) st := by
  have x := Wd.oth_ext (o := o) s hp
  refine ⟨s.len, fun i u e => ?_, s.apart, s.free, fun a hf => ?_, fun a h => ⟨(s.pv a h).1, let ⟨u, e⟩ := (s.pv a h).2.1; ⟨u, (upd_ne (ne_of_none e hp)).trans e⟩, (s.pv a h).2.2⟩⟩
  · by_cases hd : u = .dead
    · subst hd; trivial
    · obtain ⟨q, hq⟩ := (s.ob i u e).there hd
      exact (s.ob i u e).mono x (upd_ne (ne_of_none hq hp))
  · obtain ⟨u, e⟩ := s.there a hf
    exact ⟨u, (upd_ne (ne_of_none e hp)).trans e⟩
theorem run_mk (O : TxOk T nG ps) (L : ClOk T) (Cc : CfOk T c) (C : CallOk T ps c k) (hX : XO T N sc hot (k + 1) X) (hh : hot.h = false) (tk : L2N.Takes X W) {f cl : Nat} (hi : T.P.init cl = some f) {w : Wd} {ds : List D} {st : St} {vs : List V} {us : List Value} {Q : VK} {σ : L2.St} {pins : List (Addr × Obj)} {s : Shared}
    (I : Inv X pins σ w.H s) (r : Vals vs us) (hs : RS' T.T w st) (rv : RVs T.T w vs ds) (p : Po T (RVp T) w W σ Q (makeD c cl ds st)) : wpAny (model X.prog X.w) X.A (call (.ref (T.T.ca cl)) us) (EP X pins σ Q) X.xe s := by
  obtain ⟨k1, k2, k3⟩ := O.cls cl f hi
  unfold makeD at p
  rw [Cc.init, hi] at p
  dsimp only at p
  cases hf : T.P.fns[f]? with
  | none => rw [C.none f hf] at p; exact p.elim
  | some F =>
    obtain ⟨run, e, FO⟩ := C.some f F hf
    rw [e] at p
    cases hl : filled F (D.ref st.length :: ds) with
    | none => rw [hl] at p; exact p.elim
    | some as =>
      rw [hl] at p
      unfold filled at hl
      by_cases hc : (D.ref st.length :: ds).length ≤ F.np ∧ F.np - (D.ref st.length :: ds).length ≤ F.dfl.length
      · rw [if_pos hc] at hl
        cases hl
        obtain ⟨dvs, us2, b1, b2, b3⟩ := O.bind f F hf _ hc.2
        rw [← hX.prog, ← hX.w, ← hX.K, ← hX.mg, ← hX.base] at FO
        refine run_makeS (E := WE W σ) (by rw [hX.K]; exact k2) FO (hX.room hh) (by rw [hX.K]; exact b1) b2 (L2N.passAt tk σ) I r fun x dx hx hdx hne => ?_
        -- the world with the new instance
        have s1 : RS' T.T (w.wr dx (.own x)) st := RS'.oth hs hdx
        have x1 : Ext w (w.wr dx (.own x)) := Wd.oth_ext hs hdx
        have hx1 : (w.wr dx (.own x)).H x = none := (upd_ne (Ne.symm hne)).trans hx
        have s2 : RS' T.T ((w.wr dx (.own x)).put x (.ins (T.T.ca cl) dx [])) (st ++ [.ins cl []]) := RS'.put s1 hx1 ⟨dx, [], upd_same, .nil, Nat.zero_le _⟩
        have x2 : Ext (w.wr dx (.own x)) ((w.wr dx (.own x)).put x (.ins (T.T.ca cl) dx [])) := Wd.put_ext s1 hx1
        have hn : w.n = st.length := hs.len.symm
        have rx : RV T.T ((w.wr dx (.own x)).put x (.ins (T.T.ca cl) dx [])) (.ref x) (.ref st.length) := by
          have q : ((w.wr dx (.own x)).put x (.ins (T.T.ca cl) dx [])).r st.length = x := by
            rw [← hn]; exact Wd.put_at
          have z : RV T.T ((w.wr dx (.own x)).put x (.ins (T.T.ca cl) dx [])) (.ref (((w.wr dx (.own x)).put x (.ins (T.T.ca cl) dx [])).r st.length)) (.ref st.length) := .ref (by rw [← hn]; exact Nat.lt_succ_self _)
          rw [q] at z
          exact z
        have p2 := Po.ext (x1.trans x2) p
        dsimp only at p2
        refine ⟨_, _, _, rfl, s2, (RVs.cons rx (rv.mono (x1.trans x2))).append (b3 _), ?_, ?_⟩
        · have z := ((RVs.cons rx (rv.mono (x1.trans x2))).append (b3 _)).length
          simp only [List.length_append, List.length_drop, List.length_cons] at z hc ⊢
          omega
        · show Po T (RVp T) _ _ [] _ (run (D.ref st.length :: ds ++ _) (st ++ [.ins cl []]))
          cases hr : run (D.ref st.length :: ds ++ List.drop (F.dfl.length - (F.np - (D.ref st.length :: ds).length)) F.dfl) (st ++ [.ins cl []]) with
          | bad => rw [hr] at p2; exact p2.elim
          | exc kk xs s3 => rw [hr] at p2; exact p2
          | ok d s3 =>
            rw [hr] at p2
            intro w3 b x3 hs3 rb
            have rb' : RV T.T w3 b d := rb
            cases rb' with
            | non =>
              refine ⟨rfl, ?_⟩
              have p3 : Po T (RVp T) ((w.wr dx (.own x)).put x (.ins (T.T.ca cl) dx [])) W σ Q (if c.frozen cl then (match s3[st.length]? with
                | some (.ins k' fs) => .ok (.obj k' fs) (s3.set st.length .dead)
                | _ => .bad) else .ok (.ref st.length) s3) := p2
              have rx3 := rx.mono x3
              by_cases hz : c.frozen cl = true
              · rw [if_pos hz] at p3
                cases hq : s3[st.length]? with
                | none => rw [hq] at p3; exact p3.elim
                | some o =>
                  rw [hq] at p3
                  cases o with
                  | ins k' fs =>
                    dsimp only at p3
                    obtain ⟨dx', fv, g1, g2, g3⟩ := hs3.ob _ _ hq
                    have hr3 : w3.r st.length = x := by
                      generalize hxx : (V.ref x) = vx at rx3
                      cases rx3 with
                      | ref h => cases hxx; rfl
                    refine p3 (w3.ice (w3.r st.length)) (.ref x) (x3.trans Wd.ice_ext) (RS'.ice hs3 hq (by simp)) ?_
                    rw [hr3]
                    rw [hr3] at g1
                    exact .obj (w := w3.ice x) g1 (.inr rfl) (g2.mono Wd.ice_ext)
                  | _ => exact p3.elim
              · rw [if_neg hz] at p3
                exact p3 w3 _ x3 hs3 rx3
            | _ => exact (show False from p2).elim
      · rw [if_neg hc] at hl; cases hl
theorem se_make (O : TxOk T nG ps) (L : ClOk T) (Cc : CfOk T c) (C : CallOk T ps c k) {p q : Pos} {cl : Nat} {es : Es} (h : okE T.nm nG N hot sc (.make p q cl es) = true) (hi : cl < T.nm.nC → (T.P.init cl).isSome = true) (hes : SEs T N c sc hot (k + 1) es) : SE T N c sc hot (k + 1) (.make p q cl es) := by
  intro X W hX tk
  unfold okE at h
  simp only [Bool.and_eq_true, Bool.not_eq_true', decide_eq_true_eq] at h
  obtain ⟨⟨⟨⟨h1, h2⟩, h2'⟩, h3⟩, h4⟩ := h
  obtain ⟨g1, g2⟩ := hX.gl h2
  obtain ⟨f, hf⟩ := Option.isSome_iff_exists.mp (hi h2')
  obtain ⟨k1, k2, k3⟩ := O.cls cl f hf
  have hm : X.mg (T.nm.cl cl) = some (.ref (T.T.ca cl)) := by rw [hX.mg]; exact k3
  have hk : PySem.W.keepIn X.K (.ref (T.T.ca cl)) = true := by rw [hX.K]; exact k2.kp
  cases es with
  | nil => cases h4
  | cons e es =>
    refine (call_gen g1 hm hk (hes X W hX tk) g2 (py_starEach _ _ _) (es_plain es X.env p)).imp fun σ H Q ⟨w, env, st, e, hs, he, p⟩ => ?_
    subst e
    unfold ev at p
    refine (tR_bind hs he p).mono fun vs H1 ⟨w1, ds, st1, q⟩ => ?_
    obtain ⟨h1', x1, s1, e1, v1, _, p1⟩ := q
    subst h1'
    exact fun pins s us I r => run_mk O L Cc C hX h1 tk hf I r s1 v1 p1
end
end MP
set_option linter.all false
set_option maxRecDepth 100000
set_option maxHeartbeats 4000000
/-! M10: targets, what is walked, freezing, comprehensions; all expressions. -/
namespace MP
open PySem PySem.Spec PyProof.Rows L2
section
variable {T : Tg'} {N : List Str} {nG : Nat} {ps : Nat → List Str} {c : Cfg} {sc : Scope} {hot : Ho} {k : Nat} {X : Cx} {W : WX}
/-! ### freezing -/
mutual
theorem frz_ok : ∀ (k : Nat) (d : D) (st : St) (y : D) (st' : St) (w : Wd) (v : V), frz k d st = some (y, st') → RS' T.T w st → RV T.T w v d → ∃ w', w'.H = w.H ∧ Ext w w' ∧ RS' T.T w' st' ∧ RV T.T w' v y
  | k, d, st, y, st', w, v, e, hs, r => by
    cases r with
    | @ref i h =>
      cases k with
      | zero => simp [frz] at e
      | succ k =>
        unfold frz at e
        cases q : st[i]? with
        | none => rw [q] at e; cases e
        | some o =>
          rw [q] at e
          cases o with
          | lst xs =>
            dsimp only at e
            cases q2 : frzs k xs (st.set i .dead) with
            | none => rw [q2] at e; cases e
            | some p =>
              obtain ⟨ys, s2⟩ := p
              rw [q2] at e
              cases e
              obtain ⟨hl, vs, g1, g2⟩ := hs.ob i _ q
              have s1 := RS'.ice hs q (by simp)
              obtain ⟨w2, a1, a2, a3, a4⟩ := frzs_ok k xs (st.set i .dead) ys st' (w.ice (w.r i)) vs q2 s1 (g2.mono Wd.ice_ext)
              refine ⟨w2, a1, (Wd.ice_ext).trans a2, a3, .lst ⟨.inl (by rw [a1]; exact g1), a2.f _ (.inr rfl)⟩ ?_ a4⟩
              rw [← a4.length, g2.length]; exact hl
          | _ => cases e
    | non => simp [frz] at e; obtain ⟨rfl, rfl⟩ := e; exact ⟨w, rfl, Ext.refl w, hs, .non⟩
    | bl b => simp [frz] at e; obtain ⟨rfl, rfl⟩ := e; exact ⟨w, rfl, Ext.refl w, hs, .bl b⟩
    | int i => simp [frz] at e; obtain ⟨rfl, rfl⟩ := e; exact ⟨w, rfl, Ext.refl w, hs, .int i⟩
    | str h => simp [frz] at e; obtain ⟨rfl, rfl⟩ := e; exact ⟨w, rfl, Ext.refl w, hs, .str h⟩
    | tup h hl r => simp [frz] at e; obtain ⟨rfl, rfl⟩ := e; exact ⟨w, rfl, Ext.refl w, hs, .tup h hl r⟩
    | lst h hl r => simp [frz] at e; obtain ⟨rfl, rfl⟩ := e; exact ⟨w, rfl, Ext.refl w, hs, .lst h hl r⟩
    | obj h hf r => simp [frz] at e; obtain ⟨rfl, rfl⟩ := e; exact ⟨w, rfl, Ext.refl w, hs, .obj h hf r⟩
termination_by k d => (k, 1, sizeOf d)
theorem frzs_ok : ∀ (k : Nat) (ds : List D) (st : St) (ys : List D) (st' : St) (w : Wd) (vs : List V), frzs k ds st = some (ys, st') → RS' T.T w st → RVs T.T w vs ds → ∃ w', w'.H = w.H ∧ Ext w w' ∧ RS' T.T w' st' ∧ RVs T.T w' vs ys
  | k, [], st, ys, st', w, vs, e, hs, r => by
    cases r
    simp [frzs] at e
    obtain ⟨rfl, rfl⟩ := e
    exact ⟨w, rfl, Ext.refl w, hs, .nil⟩
  | k, d :: ds, st, ys, st', w, vs, e, hs, r => by
    cases r with
    | @cons v vs _ _ h r =>
      unfold frzs at e
      cases q : frz k d st with
      | none => rw [q] at e; cases e
      | some p =>
        obtain ⟨y, s1⟩ := p
        rw [q] at e
        dsimp only at e
        cases q2 : frzs k ds s1 with
        | none => rw [q2] at e; cases e
        | some p =>
          obtain ⟨ys2, s2⟩ := p
          rw [q2] at e
          cases e
          obtain ⟨w1, a1, a2, a3, a4⟩ := frz_ok k d st y s1 w v q hs h
          obtain ⟨w2, b1, b2, b3, b4⟩ := frzs_ok k ds s1 ys2 st' w1 vs q2 a3 (r.mono a2)
          exact ⟨w2, b1.trans a1, a2.trans b2, b3, .cons (a4.mono b2) b4⟩
termination_by k ds => (k, 2, sizeOf ds)
end
theorem se_frz {e : E} (he : SE T N c sc hot k e) : SE T N c sc hot k (.frz e) := by
  intro X W hX tk
  refine (he X W hX tk).imp fun σ H Q ⟨w, env, st, e, hs, he, p⟩ => ?_
  subst e
  unfold ev at p
  refine (tR_bind hs he p).mono fun x H1 ⟨w1, d, st1, q⟩ => ?_
  obtain ⟨h1, x1, s1, e1, v1, _, p1⟩ := q
  subst h1
  cases q : frz 6 d st1 with
  | none => rw [q] at p1; exact p1.elim
  | some z =>
    obtain ⟨y, s'⟩ := z
    rw [q] at p1
    obtain ⟨w2, a1, a2, a3, a4⟩ := frz_ok 6 d st1 y s' w1 x q s1 v1
    rw [← a1]
    exact p1 w2 x a2 a3 a4
theorem se_glob (O : TxOk T nG ps) (Cc : CfOk T c) {p : Pos} {g : Nat} (h : okE T.nm nG N hot sc (.glob p g) = true) (hg : g < T.nm.nGl → (T.P.glob g).isSome = true) : SE T N c sc hot k (.glob p g) := by
  intro X W hX tk
  unfold okE at h
  rw [Bool.and_eq_true, decide_eq_true_eq] at h
  obtain ⟨g1, g2⟩ := hX.gl h.1
  obtain ⟨d, hd⟩ := Option.isSome_iff_exists.mp (hg h.2)
  obtain ⟨u, v, a1, a2, a3⟩ := O.glob g d hd
  refine (pe_glob g1 (by rw [hX.mg]; exact a1) a2 g2).imp fun σ H Q ⟨w, env, st, e, hs, he, p⟩ => ?_
  subst e
  unfold ev at p
  rw [Cc.glob, hd] at p
  exact ok_rv hs (a3 w) p

theorem rg_at {w : Wd} (i : Int) : RVs T.T w (rgV 0 i) (rangeL 0 i) := by
  unfold rgV rangeL
  have go : ∀ l : List Nat, RVs T.T w (l.map fun (j : Nat) => V.int (0 + (j : Int))) (l.map fun (j : Nat) => D.int (0 + (j : Int))) := by
    intro l
    induction l with
    | nil => exact .nil
    | cons a l ih => exact .cons (.int _) ih
  exact go _
theorem se_lrng (O : TxOk T nG ps) {p q p2 q2 : Pos} {m : Bool} {a : E} (h : okE T.nm nG N hot sc (.lrng p q p2 q2 m a) = true) (ha : SE T N c sc hot k a) : SE T N c sc hot k (.lrng p q p2 q2 m a) := by
  intro X W hX tk
  unfold okE at h
  simp only [Bool.and_eq_true, Bool.not_eq_true'] at h
  obtain ⟨⟨⟨h1, h2⟩, h3⟩, h4⟩ := h
  obtain ⟨g1, g2⟩ := hX.gl h2
  obtain ⟨g3, g4⟩ := hX.gl h3
  have m1 : ("list" : Str) ∈ builtinNames := by decide +kernel
  have m2 : ("range" : Str) ∈ builtinNames := by decide +kernel
  refine (pe_listRg (hX.calm h1) g1 (by rw [hX.mg]; exact O.free _ m1) (prg_1 g3 (by rw [hX.mg]; exact O.free _ m2) (ha X W hX tk) (py_starEach _ _ _)) (by rfl)).imp fun σ H Q ⟨w, env, st, e, hs, he, p⟩ => ?_
  subst e
  unfold ev at p
  show tR T (RVp T) W (ev c a) σ w.H _
  refine (tR_bind hs he p).mono fun x H1 ⟨w1, d, st1, q⟩ => ?_
  obtain ⟨h1, x1, s1, e1, v1, _, p1⟩ := q
  subst h1
  cases v1 with
  | int i =>
    dsimp only at p1
    by_cases hi : small i
    · rw [if_pos hi] at p1
      unfold small at hi
      refine ⟨i, rfl, ⟨by omega, by omega, by omega, by omega, by omega⟩, ?_⟩
      exact mk_list s1 (rg_at i) (by simp only [rangeL, List.length_map, List.length_range]; unfold lim; omega) (Po.ok1 p1 mkL_noexc)
    · rw [if_neg hi] at p1; exact p1.elim
  | _ => exact p1.elim
/-! ### targets -/
theorem XO.tgt {i : Nat} (hX : XO T N sc hot k X) (h : okT N hot sc i = true) : X.N[i]? = some (slotN N i) ∧ L2.Loc X.env.scope (slotN N i) ∧ (X.fn (slotN N i) = true ∨ X.env.scope.names.lookup (slotN N i) = some .local) := by
  unfold okT at h
  simp only [Bool.and_eq_true, Bool.or_eq_true, decide_eq_true_eq] at h
  rw [hX.xN, hX.sc, hX.fn]
  refine ⟨h.1, ?_, ?_⟩
  · exact h.2.imp id (·.1)
  · exact h.2.elim .inr fun z => .inl z.2
/-- the slots outside stay -/
def Keeps (vs : List Nat) (σ σ' : L2.St) : Prop := σ'.length = σ.length ∧ ∀ i, i ∉ vs → σ'[i]? = σ[i]?
def tgR (T : Tg') (tg : Tg) : TG := fun v σ H Q => ∃ w d env env', w.H = H ∧ RE T.T w σ env ∧ RV T.T w v d ∧ bindT tg d env = some env' ∧ ∀ σ', RE T.T w σ' env' → Keeps tg.slots σ σ' → Q σ' H
theorem RE.set {w : Wd} {σ : L2.St} {env : En} {i : Nat} {v : V} {d : D} (h : RE T.T w σ env) (r : RV T.T w v d) : RE T.T w (σ.set i (some v)) (env.set i (some d)) := by
  refine ⟨by rw [List.length_set, List.length_set]; exact h.1, fun j e q => ?_⟩
  by_cases hj : i = j
  · subst hj
    by_cases hl : i < env.length
    · rw [List.getElem?_set_self hl] at q
      cases q
      exact .inr ⟨v, List.getElem?_set_self (by rw [h.1]; exact hl), r⟩
    · rw [List.getElem?_eq_none (by rw [List.length_set]; omega)] at q; cases q
  · rw [List.getElem?_set_ne hj] at q
    rw [List.getElem?_set_ne hj]
    exact h.2 j e q
theorem Keeps.refl (vs : List Nat) (σ : L2.St) : Keeps vs σ σ := ⟨rfl, fun _ _ => rfl⟩
theorem Keeps.set {vs : List Nat} {σ σ' : L2.St} {i : Nat} {x : Option V} (h : Keeps vs (σ.set i x) σ') : Keeps (i :: vs) σ σ' :=
  ⟨by rw [h.1, List.length_set], fun j hj => by
    rw [List.mem_cons, not_or] at hj
    rw [h.2 j hj.2, List.getElem?_set_ne (Ne.symm hj.1)]⟩
theorem names_each (env : Env) : ∀ ns : List (Pos × Nat), (assignEach (ns.map fun q => Expr.Name (slotN N q.2) q.1) env).length = ns.length ∧ (assignEach (ns.map fun q => Expr.Name (slotN N q.2) q.1) env).findIdx? (·.1) = none
  | [] => ⟨rfl, rfl⟩
  | q :: ns => by
    obtain ⟨h1, h2⟩ := names_each env ns
    have e : assignEach ((q :: ns).map fun q => Expr.Name (slotN N q.2) q.1) env = (false, assign (Expr.Name (slotN N q.2) q.1) env) :: assignEach (ns.map fun q => Expr.Name (slotN N q.2) q.1) env := rfl
    rw [e]
    refine ⟨by rw [List.length_cons, h1]; rfl, ?_⟩
    rw [List.findIdx?_cons, h2]; rfl
def gsR (T : Tg') (ns : List (Pos × Nat)) : TGs := fun vs σ H Q => ∃ w ds env, w.H = H ∧ RE T.T w σ env ∧ RVs T.T w vs ds ∧ ds.length = ns.length ∧ ∀ σ', RE T.T w σ' ((ns.zip ds).foldl (fun e (q : (Pos × Nat) × D) => e.set q.1.2 (some q.2)) env) → Keeps (ns.map (·.2)) σ σ' → Q σ' H
theorem pgs_names (hX : XO T N sc hot k X) : ∀ ns : List (Pos × Nat), (ns.all fun q => okT N hot sc q.2) = true → PGs X (ns.map fun q => Expr.Name (slotN N q.2) q.1) (gsR T ns)
  | [], _ => ⟨fun pins s σ H vs us Q I r ⟨w, ds, env, e, he, rv, hl, q⟩ => by
    have e2 : ds = [] := List.length_eq_zero_iff.mp hl
    subst e2
    cases rv
    exact pgs_nil.run pins s σ H _ us Q I r ⟨rfl, q σ he (Keeps.refl _ _)⟩⟩
  | n :: ns, h => ⟨fun pins s σ H vs us Q I r ⟨w, ds, env, e, he, rv, hl, q⟩ => by
    rw [List.all_cons, Bool.and_eq_true] at h
    obtain ⟨t1, t2, t3⟩ := hX.tgt h.1
    subst e
    cases rv with
    | nil => cases hl
    | @cons v vs d ds hv rv =>
      refine (pgs_cons (pg_name (pos := n.1) (by rw [hX.xN]; exact hX.nd) t1 t2 t3) (pgs_names hX ns h.2)).run pins s σ _ _ us Q I r ⟨v, vs, rfl, ?_⟩
      refine ⟨w, ds, _, rfl, he.set hv, rv, by simpa using hl, fun σ' r' kk => ?_⟩
      exact q σ' r' kk.set⟩
theorem pg_tg (hX : XO T N sc hot k X) {tg : Tg} (h : okTg N hot sc tg = true) : PG X (tg.py N) (tgR T tg) := by
  cases tg with
  | name p i =>
    obtain ⟨t1, t2, t3⟩ := hX.tgt (i := i) (by unfold okTg at h; exact h)
    refine ⟨fun pins s σ H v u Q I r ⟨w, d, env, env', e, he, rv, hb, q⟩ => ?_⟩
    subst e
    cases hb
    refine (pg_name (pos := p) (by rw [hX.xN]; exact hX.nd) t1 t2 t3).run pins s σ _ v u Q I r ?_
    exact q _ (he.set rv) ((Keeps.refl _ _).set)
  | tup p kk ns =>
    unfold okTg at h
    rw [Bool.and_eq_true, Bool.not_eq_true'] at h
    obtain ⟨n1, n2⟩ := names_each (N := N) X.env ns
    refine ⟨fun pins s σ H v u Q I r ⟨w, d, env, env', e, he, rv, hb, q⟩ => ?_⟩
    subst e
    refine (pg_tup (k := kk) (pos := p) (n := ns.length) (hX.calm h.1) (pgs_names hX ns h.2) n1 n2).run pins s σ _ v u Q I r ?_
    unfold bindT at hb
    cases rv with
    | @tup a vs xs ht hl rv =>
      dsimp only at hb
      by_cases hn : xs.length = ns.length
      · rw [if_pos hn] at hb
        cases hb
        refine ⟨a, vs, rfl, by rw [hX.K]; exact ht.1, by rw [rv.length]; exact hn, w, xs, env, rfl, he, rv, hn, fun σ' r' kk => q σ' r' kk⟩
      · rw [if_neg hn] at hb; cases hb
    | _ => cases hb

/-! ### what is walked -/
/-- an iterator that walks this -/
def Jok (T : Tg') (w : Wd) (J : L2.It) : Wk → Prop
  | .items ds => ds.length ≤ lim ∧ ∀ i w2, Ext w w2 → (ds.length ≤ i → J.stop i w2.H) ∧ ∀ d, ds[i]? = some d → J.go i w2.H ∧ ∀ x H', J.yld i w2.H x H' → H' = w2.H ∧ RV T.T w2 x d
  | .cell n => n < w.n ∧ ∀ i w2 st2 xs, Ext0 w w2 → RS' T.T w2 st2 → st2[n]? = some (.lst xs) → (xs.length ≤ i → J.stop i w2.H) ∧ ∀ d, xs[i]? = some d → J.go i w2.H ∧ ∀ x H', J.yld i w2.H x H' → H' = w2.H ∧ RV T.T w2 x d
theorem Jok.mono {w w' : Wd} {J : L2.It} {wk : Wk} (x : Ext w w') (h : Jok T w J wk) : Jok T w' J wk := by
  cases wk with
  | items ds => exact ⟨h.1, fun i w2 y => h.2 i w2 (x.trans y)⟩
  | cell n => exact ⟨Nat.lt_of_lt_of_le h.1 x.n, fun i w2 st2 xs y => h.2 i w2 st2 xs (x.toExt0.trans y)⟩
def SI (T : Tg') (N : List Str) (c : Cfg) (sc : Scope) (hot : Ho) (k : Nat) (it : It) : Prop :=
  ∀ X W, XO T N sc hot k X → L2N.Takes X W → ∀ tg, PI X tg (it.py T.nm N) (tR T (fun w J wk => Jok T w J wk) W (evI c it))
def iAny (K : PySem.W.Frag) (te : TE) : TI := fun σ H R => te σ H fun x H1 =>
  (∃ a, x = .ref a ∧ (∃ xs, SqL K H1 a xs) ∧ R (Itl K a) H1) ∨ (∃ a, x = .ref a ∧ (∃ xs, SqT K H1 a xs) ∧ R (Itt K a) H1) ∨ ∃ z, x = .str z ∧ R (Its z) H1
theorem pi_anyV {tg l : Expr} {tl : TE} (hl : PE X l tl) : PI X tg l (iAny X.K tl) := by
  refine ⟨fun pins s σ H R I h => ?_⟩
  refine thn (hl.run pins s σ H _ I h) fun v s1 ⟨x, H1, I1, r1, q1⟩ => ?_
  rcases q1 with ⟨a, rfl, ⟨xs, hq⟩, q⟩ | ⟨a, rfl, ⟨xs, hq⟩, q⟩ | ⟨x, rfl, q⟩
  · cases r1
    obtain ⟨its, rv, p, hz⟩ := I1.list hq
    refine wpAny_pyIter_list p.isList ?_
    refine ⟨s1.heap.objs.size, [s1.heap.objs.size], _, _, H1, rfl, I1.kept (t' := s1.toks) fun b o e => Heap.get?_push_of_some _ e, turn_list a _, ⟨_, Heap.get?_push_size _ rfl, rfl, rfl⟩, fun b hb => ?_, q⟩
    have e : b = s1.heap.objs.size := by simpa using hb
    subst e
    exact I1.fpOk (Nat.le_refl _) (I1.hok.fresh (Nat.le_refl _))
  · cases r1
    obtain ⟨its, rv, p, hz⟩ := I1.tuple hq
    refine wpAny_pyIter_tuple (show s1.heap.IsTuple a its.toArray from p) ?_
    refine ⟨s1.heap.objs.size, [s1.heap.objs.size], _, _, H1, rfl, I1.kept (t' := s1.toks) fun b o e => Heap.get?_push_of_some _ e, turn_tuple a _, ⟨_, Heap.get?_push_size _ rfl, rfl, rfl⟩, fun b hb => ?_, q⟩
    have e : b = s1.heap.objs.size := by simpa using hb
    subst e
    exact I1.fpOk (Nat.le_refl _) (I1.hok.fresh (Nat.le_refl _))
  · obtain ⟨t, rfl⟩ := r1
    cases ha : x.cps.all (· < 128)
    · exact wpAny_pyIter_wide ha (pi_one (tk := s1.toks) I1 _ (turn_str _ x t "str_iterator" (.inr rfl)) ⟨_, Heap.get?_push_size _ rfl, rfl, rfl⟩ q)
    · exact wpAny_pyIter_ascii ha (pi_one (tk := s1.toks) I1 _ (turn_str _ x t "str_ascii_iterator" (.inl rfl)) ⟨_, Heap.get?_push_size _ rfl, rfl, rfl⟩ q)
theorem jok_lst {w : Wd} {a : Addr} {vs : List V} {ds : List D} (h : LstA T.T w a vs) (hl : ds.length ≤ lim) (r : RVs T.T w vs ds) : Jok T w (Itl T.T.K a) (.items ds) := by
  refine ⟨hl, fun i w2 x => ?_⟩
  have h2 := h.mono x
  have r2 := r.mono x
  refine ⟨fun hl => ⟨vs, h2.sq, by rw [r.length]; exact hl⟩, fun d hd => ?_⟩
  obtain ⟨v, e, rv⟩ := r2.get hd
  exact ⟨⟨vs, v, h2.sq, e⟩, fun y H' ⟨q1, q2⟩ => ⟨q1, by
    have z := q2 vs h2.sq
    rw [e] at z
    cases z
    exact rv⟩⟩
theorem jok_tup {w : Wd} {a : Addr} {vs : List V} {ds : List D} (h : TupA T.T w a vs) (hl : ds.length ≤ lim) (r : RVs T.T w vs ds) : Jok T w (Itt T.T.K a) (.items ds) := by
  refine ⟨hl, fun i w2 x => ?_⟩
  have h2 := h.mono x
  have r2 := r.mono x
  refine ⟨fun hl => ⟨vs, h2.1, by rw [r.length]; exact hl⟩, fun d hd => ?_⟩
  obtain ⟨v, e, rv⟩ := r2.get hd
  exact ⟨⟨vs, v, h2.1, e⟩, fun y H' ⟨q1, q2⟩ => ⟨q1, by
    have z := q2 vs h2.1
    rw [e] at z
    cases z
    exact rv⟩⟩
theorem jok_str {w : Wd} {x : Str} (h : strOk x) : Jok T w (Its x) (.items (x.cps.toList.map fun c => .str ⟨#[c]⟩)) := by
  refine ⟨by rw [List.length_map, Array.length_toList]; exact h.1, fun i w2 _ => ?_⟩
  refine ⟨fun hl => by show x.cps.size ≤ i; simpa using hl, fun d hd => ?_⟩
  rw [List.getElem?_map, Array.getElem?_toList] at hd
  cases q : x.cps[i]? with
  | none => rw [q] at hd; cases hd
  | some c =>
    rw [q] at hd
    cases hd
    refine ⟨(Array.getElem?_eq_some_iff.mp q).1, fun y H' ⟨q1, c', q2, q3⟩ => ⟨q1, ?_⟩⟩
    rw [q] at q2
    cases q2
    rw [q3]
    refine .str ⟨by show 1 ≤ lim; decide, ?_⟩
    have hc := strOk_all.mp h.2 c (by rw [Array.mem_toList_iff]; exact Array.mem_of_getElem? q)
    exact strOk_all.mpr fun c' h' => by
      have e : c' = c := by simpa using h'
      rw [e]; exact hc
theorem jok_rng {w : Wd} {i j : Int} (hi : small i) (hj : small j) : Jok T w (Itr i (j - i).toNat) (.items (rangeL i j)) := by
  have hl : (rangeL i j).length = (j - i).toNat := by simp [rangeL]
  refine ⟨by rw [hl]; unfold small at hi hj; unfold lim; omega, fun n w2 _ => ?_⟩
  refine ⟨fun h => by rw [hl] at h; exact h, fun d hd => ?_⟩
  have hn : n < (j - i).toNat := by rw [← hl]; exact (List.getElem?_eq_some_iff.mp hd).1
  unfold rangeL at hd
  rw [List.getElem?_map, List.getElem?_range hn] at hd
  cases hd
  exact ⟨hn, fun y H' ⟨q1, q2⟩ => ⟨q1, by rw [q2]; exact .int _⟩⟩
theorem jok_cell {w : Wd} {n : Nat} (h : n < w.n) : Jok T w (Itl T.T.K (w.r n)) (.cell n) := by
  refine ⟨h, fun i w2 st2 xs x s2 e => ?_⟩
  obtain ⟨hl, vs, g1, g2⟩ := s2.ob n _ e
  rw [x.r n h] at g1
  have sq : SqL T.T.K w2.H (w.r n) vs := .inl (.inl g1)
  refine ⟨fun hl => ⟨vs, sq, by rw [g2.length]; exact hl⟩, fun d hd => ?_⟩
  obtain ⟨v, e, rv⟩ := g2.get hd
  exact ⟨⟨vs, v, sq, e⟩, fun y H' ⟨q1, q2⟩ => ⟨q1, by
    have z := q2 vs sq
    rw [e] at z
    cases z
    exact rv⟩⟩
theorem si_of {e : E} (he : SE T N c sc hot k e) : SI T N c sc hot k (.of e) := by
  intro X W hX tk tg
  refine ⟨fun pins s σ H R I ⟨w, env, st, e', hs, hen, p⟩ => (pi_anyV (he X W hX tk)).run pins s σ H R I ?_⟩
  subst e'
  unfold evI at p
  show tR T (RVp T) W (ev c e) σ w.H _
  refine (tR_bind hs hen p).mono fun x H1 ⟨w1, d, st1, q⟩ => ?_
  obtain ⟨h1, x1, s1, e1, v1, _, p1⟩ := q
  subst h1
  obtain ⟨wk, e3, p3⟩ := ofO_some p1
  rw [hX.K]
  cases v1 with
  | @str z hz =>
    cases e3
    exact .inr (.inr ⟨z, rfl, p3 w1 _ (Ext.refl w1) s1 (jok_str hz)⟩)
  | @tup a vs xs ht hl r =>
    cases e3
    exact .inr (.inl ⟨a, rfl, ⟨vs, ht.1⟩, p3 w1 _ (Ext.refl w1) s1 (jok_tup ht hl r)⟩)
  | @lst a vs xs ht hl r =>
    cases e3
    exact .inl ⟨a, rfl, ⟨vs, ht.sq⟩, p3 w1 _ (Ext.refl w1) s1 (jok_lst ht hl r)⟩
  | @ref i h =>
    unfold wkD at e3
    dsimp only at e3
    cases q : st1[i]? with
    | none => rw [q] at e3; cases e3
    | some o =>
      rw [q] at e3
      cases o with
      | lst xs =>
        cases e3
        obtain ⟨_, vs, g1, _⟩ := s1.ob i _ q
        exact .inl ⟨_, rfl, ⟨vs, .inl (.inl g1)⟩, p3 w1 _ (Ext.refl w1) s1 (jok_cell h)⟩
      | _ => cases e3
  | _ => cases e3
theorem range_name : ("range" : Str) ∈ builtinNames := by decide +kernel
theorem si_rng1 (O : TxOk T nG ps) {p q : Pos} {a : E} (h : okI T.nm nG N hot sc (.rng1 p q a) = true) (ha : SE T N c sc hot k a) : SI T N c sc hot k (.rng1 p q a) := by
  intro X W hX tk tg
  unfold okI at h
  rw [Bool.and_eq_true] at h
  obtain ⟨g1, g2⟩ := hX.gl h.1
  refine ⟨fun pins s σ H R I ⟨w, env, st, e', hs, hen, p⟩ => (pi_range1 g1 (by rw [hX.mg]; exact O.free _ range_name) (pa_cons (ha X W hX tk) pa_nil (py_starEach _ _ _)) (py_starEach _ _ _)).run pins s σ H R I ?_⟩
  subst e'
  unfold evI at p
  show tR T (RVp T) W (ev c a) σ w.H _
  refine (tR_bind hs hen p).mono fun x H1 ⟨w1, d, st1, q⟩ => ?_
  obtain ⟨h1, x1, s1, e1, v1, _, p1⟩ := q
  subst h1
  cases v1 with
  | int i =>
    dsimp only at p1
    by_cases hi : small i
    · rw [if_pos hi] at p1
      refine ⟨i, rfl, by unfold small at hi; omega, by unfold small at hi; omega, ?_⟩
      have z := jok_rng (T := T) (w := w1) (i := 0) (j := i) (by unfold small; omega) hi
      rw [Int.sub_zero] at z
      exact p1 w1 _ (Ext.refl w1) s1 z
    · rw [if_neg hi] at p1; exact p1.elim
  | _ => exact p1.elim
theorem si_rng2 (O : TxOk T nG ps) {p q : Pos} {a b : E} (h : okI T.nm nG N hot sc (.rng2 p q a b) = true) (ha : SE T N c sc hot k a) (hb : SE T N c sc hot k b) : SI T N c sc hot k (.rng2 p q a b) := by
  intro X W hX tk tg
  unfold okI at h
  rw [Bool.and_eq_true, Bool.and_eq_true] at h
  obtain ⟨g1, g2⟩ := hX.gl h.1.1
  refine ⟨fun pins s σ H R I ⟨w, env, st, e', hs, hen, p⟩ => (pi_range2 g1 (by rw [hX.mg]; exact O.free _ range_name) (pa_cons (ha X W hX tk) (pa_cons (hb X W hX tk) pa_nil (py_starEach _ _ _)) (py_starEach _ _ _)) (by rw [py_starEach, py_starEach]; rfl) (py_starEach _ _ _)).run pins s σ H R I ?_⟩
  subst e'
  unfold evI at p
  show tR T (RVp T) W (ev c a) σ w.H _
  refine (tR_two hs hen p).mono fun x H1 q => q.mono fun y H2 ⟨w2, d1, d2, st2, h2, x2, s2, e2, v1, v2, p2⟩ => ?_
  subst h2
  cases v1 with
  | int i => cases v2 with
    | int j =>
      dsimp only at p2
      by_cases hi : small i ∧ small j
      · rw [if_pos hi] at p2
        refine ⟨i, j, rfl, by unfold small at hi; omega, ?_⟩
        exact p2 w2 _ (Ext.refl w2) s2 (jok_rng hi.1 hi.2)
      · rw [if_neg hi] at p2; exact p2.elim
    | _ => exact p2.elim
  | _ => exact p2.elim

/-! ### a list that is being made -/
def Wd.hide (w : Wd) (p : Addr) (o : HO) : Wd := ⟨w.F, w.r, w.n, upd w.H p o, fun a => w.P a ∨ a = p⟩
def Wd.bare (w : Wd) (p : Addr) : Wd := ⟨fun a => w.F a ∨ a = p, w.r, w.n, w.H, fun a => w.P a ∧ a ≠ p⟩
def Wd.mine (w : Wd) (p : Addr) : Wd := ⟨w.F, fun i => if i = w.n then p else w.r i, w.n + 1, w.H, fun a => w.P a ∧ a ≠ p⟩
theorem Wd.hide_ext {w : Wd} {p : Addr} {o : HO} {st : St} (s : RS' T.T w st) (hp : w.H p = none) : Ext w (w.hide p o) :=
  ⟨⟨fun _ h => h, fun a h => by
    obtain ⟨u, e⟩ := s.there a h
    exact upd_ne (ne_of_none e hp), fun _ _ => rfl, Nat.le_refl _⟩, fun a h => ⟨.inl h, by
    obtain ⟨u, e⟩ := (s.pv a h).2.1
    exact upd_ne (ne_of_none e hp)⟩⟩
theorem RS'.hide {w : Wd} {p : Addr} {o : HO} {st : St} (s : RS' T.T w st) (hp : w.H p = none) : RS' T.T (w.hide p o) st := by
  have x := Wd.hide_ext (o := o) s hp
  have ne : ∀ (i : Nat) (o' : SO), st[i]? = some o' → o' ≠ .dead → w.r i ≠ p := fun i o' e hd z => by
    obtain ⟨q, hq⟩ := (s.ob i o' e).there hd
    rw [z, hp] at hq; cases hq
  refine ⟨s.len, fun i u e => ?_, s.apart, s.free, fun a hf => ?_, fun a h => ?_⟩
  · by_cases hd : u = .dead
    · subst hd; trivial
    · exact (s.ob i u e).mono x (upd_ne (ne i u e hd))
  · obtain ⟨u, e⟩ := s.there a hf
    exact ⟨u, (upd_ne (ne_of_none e hp)).trans e⟩
  · rcases h with h | h
    · obtain ⟨h1, ⟨u, e⟩, h3⟩ := s.pv a h
      exact ⟨h1, ⟨u, (upd_ne (ne_of_none e hp)).trans e⟩, h3⟩
    · subst h
      refine ⟨fun hf => ?_, ⟨o, upd_same⟩, ne⟩
      obtain ⟨u, e⟩ := s.there a hf
      rw [hp] at e; cases e
theorem prv_ext {w : Wd} {p : Addr} {o : HO} {st : St} (s : RS' T.T w st) (hp : w.P p) : Ext0 w (w.wr p o) :=
  ⟨fun _ h => h, fun a h => upd_ne fun z => (s.pv p hp).1 (by rw [← z]; exact h), fun _ _ => rfl, Nat.le_refl _⟩
theorem RS'.prv {w : Wd} {p : Addr} {o : HO} {st : St} (s : RS' T.T w st) (hp : w.P p) : RS' T.T (w.wr p o) st := by
  have x := prv_ext (o := o) s hp
  obtain ⟨h1, h2, h3⟩ := s.pv p hp
  refine ⟨s.len, fun i u e => ?_, s.apart, s.free, fun a hf => ?_, fun a h => ?_⟩
  · by_cases hd : u = .dead
    · subst hd; trivial
    · exact (s.ob i u e).mono0 x (upd_ne (h3 i u e hd))
  · obtain ⟨u, e⟩ := s.there a hf
    exact ⟨u, (upd_ne fun z => h1 (by rw [← z]; exact hf)).trans e⟩
  · obtain ⟨g1, ⟨u, e⟩, g3⟩ := s.pv a h
    by_cases z : a = p
    · subst z; exact ⟨g1, ⟨o, upd_same⟩, g3⟩
    · exact ⟨g1, ⟨u, (upd_ne z).trans e⟩, g3⟩
theorem bare_ext {w : Wd} {p : Addr} : Ext0 w (w.bare p) := ⟨fun _ h => .inl h, fun _ _ => rfl, fun _ _ => rfl, Nat.le_refl _⟩
theorem RS'.bare {w : Wd} {p : Addr} {st : St} (s : RS' T.T w st) (hp : w.P p) : RS' T.T (w.bare p) st := by
  obtain ⟨h1, h2, h3⟩ := s.pv p hp
  refine ⟨s.len, fun i u e => (s.ob i u e).mono0 bare_ext rfl, s.apart, fun i u e hd hf => ?_, fun a hf => ?_, fun a h => ?_⟩
  · rcases hf with hf | hf
    · exact s.free i u e hd hf
    · exact h3 i u e hd hf
  · rcases hf with hf | hf
    · exact s.there a hf
    · rw [hf]; exact h2
  · obtain ⟨g1, g2, g3⟩ := s.pv a h.1
    exact ⟨fun z => z.elim g1 h.2, g2, g3⟩
theorem mine_ext {w : Wd} {p : Addr} : Ext0 w (w.mine p) := ⟨fun _ h => h, fun _ _ => rfl, fun i h => if_neg (Nat.ne_of_lt h), Nat.le_succ _⟩
theorem RS'.mine {w : Wd} {p : Addr} {st : St} {u : SO} (s : RS' T.T w st) (hp : w.P p) (hu : RO T.T (w.mine p) p u) : RS' T.T (w.mine p) (st ++ [u]) := by
  obtain ⟨h1, h2, h3⟩ := s.pv p hp
  have old : ∀ {i : Nat} {o' : SO}, (st ++ [u])[i]? = some o' → (i < st.length ∧ st[i]? = some o' ∧ (w.mine p).r i = w.r i) ∨ (i = st.length ∧ o' = u ∧ (w.mine p).r i = p) := fun {i o'} e => by
    by_cases h : i < st.length
    · rw [List.getElem?_append_left h] at e
      exact .inl ⟨h, e, if_neg (by rw [← s.len]; exact Nat.ne_of_lt h)⟩
    · rw [List.getElem?_append_right (by omega)] at e
      have h2 : i - st.length = 0 := by
        by_cases h3 : i - st.length = 0
        · exact h3
        · rw [List.getElem?_eq_none (by simp only [List.length_singleton]; omega)] at e; cases e
      rw [h2] at e
      have e' : u = o' := by simpa using e
      exact .inr ⟨by omega, e'.symm, if_pos (by rw [← s.len]; omega)⟩
  refine ⟨by simp [Wd.mine, s.len], fun i o' e => ?_, fun i j o' u' e1 e2 d1 d2 er => ?_, fun i o' e hd hf => ?_, s.there, fun a h => ?_⟩
  · rcases old e with ⟨h, e, er⟩ | ⟨h, e, er⟩
    · rw [er]
      exact (s.ob i o' e).mono0 mine_ext rfl
    · rw [er, e]; exact hu
  · rcases old e1 with ⟨l1, e1, r1⟩ | ⟨l1, e1, r1⟩
    · rcases old e2 with ⟨l2, e2, r2⟩ | ⟨l2, e2, r2⟩
      · rw [r1, r2] at er; exact s.apart i j o' u' e1 e2 d1 d2 er
      · rw [r1, r2] at er; exact absurd er (h3 i o' e1 d1)
    · rcases old e2 with ⟨l2, e2, r2⟩ | ⟨l2, e2, r2⟩
      · rw [r1, r2] at er; exact absurd er.symm (h3 j u' e2 d2)
      · omega
  · rcases old e with ⟨h, e, er⟩ | ⟨h, e, er⟩
    · rw [er] at hf; exact s.free i o' e hd hf
    · rw [er] at hf; exact h1 hf
  · obtain ⟨g1, g2, g3⟩ := s.pv a h.1
    refine ⟨g1, g2, fun i o' e hd => ?_⟩
    rcases old e with ⟨l, e, er⟩ | ⟨l, e, er⟩
    · rw [er]; exact g3 i o' e hd
    · rw [er]; exact fun z => h.2 z.symm

/-! ### comprehensions -/
theorem wipe_get {σ : L2.St} {i : Nat} : ∀ vs : List Nat, (wipe σ vs)[i]? = if i ∈ vs ∧ i < σ.length then some none else σ[i]?
  | [] => by
    rw [if_neg (by simp)]; rfl
  | v :: vs => by
    unfold wipe
    by_cases e : v = i
    · subst e
      by_cases hl : v < σ.length
      · rw [List.getElem?_set_self (by rw [wipe_length]; exact hl), if_pos ⟨List.mem_cons_self, hl⟩]
      · rw [List.getElem?_eq_none (by rw [List.length_set, wipe_length]; omega), if_neg (fun z => hl z.2), List.getElem?_eq_none (by omega)]
    · rw [List.getElem?_set_ne e, wipe_get vs]
      have e2 : (i ∈ v :: vs ∧ i < σ.length) ↔ (i ∈ vs ∧ i < σ.length) := by
        rw [List.mem_cons]
        exact ⟨fun z => ⟨z.1.elim (fun q => absurd q.symm e) id, z.2⟩, fun z => ⟨.inr z.1, z.2⟩⟩
      simp only [e2]
theorem keeps_wipe {ws vs : List Nat} {σ σ2 : L2.St} (h : Keeps ws (wipe σ vs) σ2) (hs : ∀ i ∈ ws, i ∈ vs) : wipe σ2 vs = wipe σ vs := by
  have hl : σ2.length = σ.length := by rw [h.1, wipe_length]
  refine List.ext_getElem? fun i => ?_
  rw [wipe_get, wipe_get, hl]
  by_cases hi : i ∈ vs ∧ i < σ.length
  · rw [if_pos hi, if_pos hi]
  · rw [if_neg hi, if_neg hi]
    by_cases h2 : i < σ.length
    · have h3 : i ∉ vs := fun z => hi ⟨z, h2⟩
      rw [h.2 i (fun z => h3 (hs i z)), wipe_get, if_neg hi]
    · rw [List.getElem?_eq_none (by omega), List.getElem?_eq_none (by omega)]
theorem RE.wipe {w : Wd} {σ : L2.St} {env : En} (h : RE T.T w σ env) : ∀ vs : List Nat, RE T.T w (L2.wipe σ vs) (wipeE env vs)
  | [] => h
  | v :: vs => by
    have ih := h.wipe vs
    refine ⟨by unfold L2.wipe wipeE; rw [List.length_set, List.length_set]; exact ih.1, fun j e q => ?_⟩
    unfold wipeE at q
    unfold L2.wipe
    by_cases hj : v = j
    · subst hj
      by_cases hl : v < (wipeE env vs).length
      · rw [List.getElem?_set_self hl] at q; cases q
      · rw [List.getElem?_eq_none (by rw [List.length_set]; omega)] at q; cases q
    · rw [List.getElem?_set_ne hj] at q
      rw [List.getElem?_set_ne hj]
      exact ih.2 j e q
theorem XO.blk {cs : Scope} {s : Shared} {H : Hp} {cl : List (Str × Addr)} {C : Addr} {fp : List Addr} (hX : XO T N sc hot k X) (hh : hot.h = false) : XO T N (relS cs sc) (Ho.blk cs) k (X.blk s H cs (compEnvC cs cl C X.env) fp) :=
  ⟨hX.prog, hX.w, hX.K, hX.mg, hX.base, hX.xN, by
    have e : (compEnvC cs cl C X.env).scope = relS cs X.env.scope := rfl
    show (compEnvC cs cl C X.env).scope = _
    rw [e, hX.sc], hX.nd, fun _ => hX.calm hh, fun _ => hX.room hh, hX.units, rfl⟩
def WNo : WX := fun _ _ _ _ => False
theorem takes_no {X : Cx} : L2N.Takes X WNo := fun u s' ⟨a, B, sI, pins, σ, H, cls, d, e, I, nb, up, sky, na, os, ag, w⟩ => w.elim
/-- a comprehension's turn -/
def turnB (c : Cfg) (own : List Nat) (elt : E) (tg : Tg) (ifs : Es) (env : En) : D → St → Res (Option D) := fun x s => match bindT tg x (wipeE env own) with
  | some env' => (evAllT c ifs env' s).bind fun q s => if q then (ev c elt env' s).bind fun y s => .ok (some y) s else .ok none s
  | none => .bad
def tests (T : Tg') (c : Cfg) (ifs : Es) : TT := tR T Eqp WNo (evAllT c ifs)
theorem turn_ok {own : List Nat} {elt : E} {tg : Tg} {ifs : Es} {env : En} {w1 w : Wd} {D0 : Addr} {stt : St} {vals : List V} {acc : List D} {σ : L2.St} {Q : VK} {d : D} {x : V} {K : List D → St → Res (List D)} {fin : List D → St → Res D} {Nx : Hp → Prop}
    (hsl : ∀ i ∈ tg.slots, i ∈ own) (x1 : Ext w1 w) (hn : w1.H D0 = none) (hs1 : ¬ w1.P D0 ∧ ¬ w1.F D0) (hs : RS' T.T w stt) (hP : w.P D0) (hD : w.H D0 = some (.lst vals)) (hv : RVs T.T w vals acc) (hl : acc.length < lim) (he : RE T.T w (L2.wipe σ own) (wipeE env own)) (rx : RV T.T w x d)
    (p : Po T (RVp T) w1 W σ Q ((match turnB c own elt tg ifs env d stt with
      | .ok (some y) s => K (acc ++ [y]) s
      | .ok none s => K acc s
      | _ => .bad).bind fin))
    (hNx : ∀ w' acc' vals' s', Ext w1 w' → RS' T.T w' s' → w'.P D0 → w'.H D0 = some (.lst vals') → RVs T.T w' vals' acc' → acc'.length ≤ acc.length + 1 → Po T (RVp T) w1 W σ Q ((K acc' s').bind fin) → Nx w'.H) :
    tgR T tg x (L2.wipe σ own) w.H fun σ2 H2 => L2.wipe σ2 own = L2.wipe σ own ∧ tests T c ifs σ2 H2 fun b H3 =>
      if b = true then tR T (RVp T) WNo (ev c elt) σ2 H3 (fun y H4 => ∃ acc, H4 D0 = some (.lst acc) ∧ acc.length < sizeLine ∧ Nx (upd H4 D0 (.lst (acc ++ [y])))) else Nx H3 := by
  unfold turnB at p
  cases hb : bindT tg d (wipeE env own) with
  | none => rw [hb] at p; exact (show False from p).elim
  | some env' =>
    rw [hb] at p
    dsimp only at p
    refine ⟨w, d, _, env', rfl, he, rx, hb, fun σ2 he2 kk => ⟨keeps_wipe kk hsl, w, env', stt, rfl, hs, he2, ?_⟩⟩
    cases hq : evAllT c ifs env' stt with
    | bad => rw [hq] at p; exact (show False from p).elim
    | exc => rw [hq] at p; exact (show False from p).elim
    | ok b s2 =>
      rw [hq] at p
      intro w2 b' x2 hs2 eb
      have eb' : b' = b := eb
      subst eb'
      cases b' with
      | false =>
        rw [if_neg (by decide)]
        exact hNx w2 acc vals s2 (x1.trans x2) hs2 (x2.p _ hP).1 ((x2.p _ hP).2.trans hD) (hv.mono x2) (Nat.le_succ _) p
      | true =>
        rw [if_pos rfl]
        refine ⟨w2, env', s2, rfl, hs2, he2.mono x2, ?_⟩
        cases hy : ev c elt env' s2 with
        | bad => 
          have p' : Po T (RVp T) w1 W σ Q ((match ((ev c elt env' s2).bind fun y s => Res.ok (some y) s : Res (Option D)) with
            | .ok (some y) s => K (acc ++ [y]) s
            | .ok none s => K acc s
            | _ => .bad).bind fin) := p
          rw [hy] at p'; exact (show False from p').elim
        | exc =>
          have p' : Po T (RVp T) w1 W σ Q ((match ((ev c elt env' s2).bind fun y s => Res.ok (some y) s : Res (Option D)) with
            | .ok (some y) s => K (acc ++ [y]) s
            | .ok none s => K acc s
            | _ => .bad).bind fin) := p
          rw [hy] at p'; exact (show False from p').elim
        | ok y s3 =>
          have p' : Po T (RVp T) w1 W σ Q ((match ((ev c elt env' s2).bind fun y s => Res.ok (some y) s : Res (Option D)) with
            | .ok (some y) s => K (acc ++ [y]) s
            | .ok none s => K acc s
            | _ => .bad).bind fin) := p
          rw [hy] at p'
          have p2 : Po T (RVp T) w1 W σ Q ((K (acc ++ [y]) s3).bind fin) := p'
          intro w3 vy x3 hs3 ry
          have x13 := (x1.trans x2).trans x3
          have hP3 := (x3.p _ (x2.p _ hP).1)
          have hD3 : w3.H D0 = some (.lst vals) := hP3.2.trans ((x2.p _ hP).2.trans hD)
          have hv3 := (hv.mono x2).mono x3
          refine ⟨vals, hD3, by rw [hv.length]; exact Nat.lt_of_lt_of_le hl lim_line, ?_⟩
          have x34 := prv_ext (o := .lst (vals ++ [vy])) hs3 hP3.1
          refine hNx (w3.wr D0 (.lst (vals ++ [vy]))) (acc ++ [y]) (vals ++ [vy]) s3 ⟨x13.toExt0.trans x34, fun a ha => ⟨(x13.p a ha).1, ?_⟩⟩ (RS'.prv hs3 hP3.1) hP3.1 upd_same ((hv3.append (.cons (show RV T.T w3 vy y from ry) .nil)).mono0 x34) (by simp) p2
          have ne : a ≠ D0 := fun z => hs1.1 (by rw [← z]; exact ha)
          exact (upd_ne ne).trans (x13.p a ha).2
theorem fin_ok {m : Bool} {w1 w : Wd} {D0 : Addr} {stt : St} {vals : List V} {acc : List D} {σ : L2.St} {Q : VK} (x1 : Ext w1 w) (hs1 : ¬ w1.P D0) (hs : RS' T.T w stt) (hP : w.P D0) (hD : w.H D0 = some (.lst vals)) (hv : RVs T.T w vals acc) (hl : acc.length ≤ lim)
    (p : Po T (RVp T) w1 W σ Q (mkL m acc stt)) : Q (.ref D0) w.H := by
  cases m with
  | false =>
    refine p (w.bare D0) (.ref D0) ⟨x1.toExt0.trans bare_ext, fun a ha => ⟨⟨(x1.p a ha).1, fun z => hs1 (by rw [← z]; exact ha)⟩, (x1.p a ha).2⟩⟩ (RS'.bare hs hP) ?_
    exact .lst ⟨.inl hD, .inr rfl⟩ hl (hv.mono0 bare_ext)
  | true =>
    refine p (w.mine D0) (.ref D0) ⟨x1.toExt0.trans mine_ext, fun a ha => ⟨⟨(x1.p a ha).1, fun z => hs1 (by rw [← z]; exact ha)⟩, (x1.p a ha).2⟩⟩ (RS'.mine hs hP ⟨hl, vals, hD, hv.mono0 mine_ext⟩) ?_
    have q : (w.mine D0).r stt.length = D0 := by rw [hs.len]; exact if_pos rfl
    have z : RV T.T (w.mine D0) (.ref ((w.mine D0).r stt.length)) (.ref stt.length) := .ref (by rw [hs.len]; exact Nat.lt_succ_self _)
    rw [q] at z
    exact z
def ownS (own : List (Str × Nat)) : List Nat := own.map fun q => q.2
theorem comp_ev (p : Pos) (m : Bool) (cs : Scope) (own : List (Str × Nat)) (elt : E) (tg : Tg) (it : It) (ifs : Es) (env : En) (st : St) :
    ev c (.comp p m cs own elt tg it ifs) env st = (evI c it env st).bind fun wk s => (match wk with
      | .items xs => compL (turnB c (ownS own) elt tg ifs env) xs [] s
      | .cell n => compR (turnB c (ownS own) elt tg ifs env) n c.fuel 0 [] s).bind fun ys s => mkL m ys s := by
  unfold ev
  rfl
/-- the parts of a comprehension -/
structure CompP (T : Tg') (N : List Str) (c : Cfg) (X : Cx) (W : WX) (m : Bool) (cs : Scope) (own : List (Str × Nat)) (elt : E) (tg : Tg) (it : It) (ifs : Es) : Prop where
  hc : X.calm = true
  nd : X.N.Nodup
  hi : PI X (tg.py N) (it.py T.nm N) (tR T (fun w J wk => Jok T w J wk) W (evI c it))
  ok : BlkOk X.N X.env.scope cs own
  hg : ∀ (s : Shared) (H : Hp) (C : Addr) (cl : List (Str × Addr)) (fp : List Addr), PG (X.blk s H cs (compEnvC cs cl C X.env) fp) (tg.py N) (tgR T tg)
  ht : ∀ (s : Shared) (H : Hp) (C : Addr) (cl : List (Str × Addr)) (fp : List Addr), PTs (X.blk s H cs (compEnvC cs cl C X.env) fp) (ifs.py T.nm N) (tests T c ifs)
  he : ∀ (s : Shared) (H : Hp) (C : Addr) (cl : List (Str × Addr)) (fp : List Addr), PE (X.blk s H cs (compEnvC cs cl C X.env) fp) (elt.py T.nm N) (tR T (RVp T) WNo (ev c elt))
  im : ∀ (p : Pos) σ H Q, tR T (RVp T) W (ev c (.comp p m cs own elt tg it ifs)) σ H Q → tLc (tR T (fun w J wk => Jok T w J wk) W (evI c it)) (tgR T tg) (tests T c ifs) (tR T (RVp T) WNo (ev c elt)) (own.map (·.2)) σ H Q
def SC (T : Tg') (N : List Str) (c : Cfg) (sc : Scope) (hot : Ho) (k : Nat) (m : Bool) (cs : Scope) (own : List (Str × Nat)) (elt : E) (tg : Tg) (it : It) (ifs : Es) : Prop :=
  ∀ X W, XO T N sc hot k X → L2N.Takes X W → CompP T N c X W m cs own elt tg it ifs
theorem sc_comp {p : Pos} {m : Bool} {cs : Scope} {own : List (Str × Nat)} {elt : E} {tg : Tg} {it : It} {ifs : Es} (h : okE T.nm nG N hot sc (.comp p m cs own elt tg it ifs) = true) (hit : SI T N c sc hot k it)
    (helt : SE T N c (relS cs sc) (Ho.blk cs) k elt) (hifs : ifs = .nil ∨ ∃ e, ifs = .cons e .nil ∧ ST T N c (relS cs sc) (Ho.blk cs) k e) : SC T N c sc hot k m cs own elt tg it ifs := by
  intro X W hX tk
  unfold okE at h
  simp only [Bool.and_eq_true, Bool.not_eq_true', decide_eq_true_eq] at h
  obtain ⟨⟨⟨⟨⟨⟨⟨⟨h1, h2⟩, h3⟩, h4⟩, h5⟩, h6⟩, h7⟩, _⟩, h8⟩ := h
  have hsl : ∀ i ∈ tg.slots, i ∈ ownS own := fun i hi => by
    have z := List.all_eq_true.mp h5 i hi
    simpa [ownS] using z
  have hc := hX.calm h1
  have hpts : ∀ (s : Shared) (H : Hp) (C : Addr) (cl : List (Str × Addr)) (fp : List Addr), PTs (X.blk s H cs (compEnvC cs cl C X.env) fp) (ifs.py T.nm N) (tests T c ifs) := by
    intro s H C cl fp
    rcases hifs with rfl | ⟨e, rfl, he⟩
    · exact ⟨fun pins s σ H Q I ⟨w, env, st, e, hs, hen, p⟩ => pts_nil.run pins s σ H Q I (by
        subst e
        unfold evAllT at p
        exact p w true (Ext.refl w) hs rfl)⟩
    · exact ⟨fun pins s σ H Q I ⟨w, env, st, e', hs, hen, p⟩ => (pts_one (he _ WNo (hX.blk h1) takes_no)).run pins s σ H Q I (by
        subst e'
        refine ⟨w, env, st, rfl, hs, hen, ?_⟩
        unfold evAllT at p
        rw [← bind_assoc'] at p
        have p' : Po T Eqp w WNo σ Q ((evT c e env st).bind fun q s => if q = true then evAllT c .nil env s else .ok false s) := p
        cases hq : evT c e env st with
        | bad => rw [hq] at p'; exact p'
        | exc => rw [hq] at p'; exact p'
        | ok b s2 =>
          rw [hq] at p'
          cases b with
          | true =>
            have p2 : Po T Eqp w WNo σ Q (evAllT c .nil env s2) := p'
            unfold evAllT at p2
            exact p2
          | false => exact p')⟩
  refine ⟨hc, by rw [hX.xN]; exact hX.nd, hit X W hX tk _, blkOk_by (by rw [hX.xN, hX.sc]; exact h2), fun s H C cl fp => pg_tg (hX.blk h1) h4, hpts, fun s H C cl fp => helt _ WNo (hX.blk h1) takes_no, fun p σ H Q ⟨w, env, st, e, hs, he, p⟩ => ?_⟩
  subst e
  rw [comp_ev] at p
  refine (tR_bind hs he p).mono fun J H1 ⟨w1, wk, st1, q⟩ => ?_
  obtain ⟨h1', x1, s1, e1, jok, _, p1⟩ := q
  subst h1'
  intro D0 hn
  have hnP : ¬ w1.P D0 := fun z => by
    obtain ⟨u, e⟩ := (s1.pv D0 z).2.1
    rw [hn] at e; cases e
  have hnF : ¬ w1.F D0 := fun z => by
    obtain ⟨u, e⟩ := s1.there D0 z
    rw [hn] at e; cases e
  have xh := Wd.hide_ext (o := .lst []) s1 hn
  have sh := RS'.hide (o := .lst []) s1 hn
  cases wk with
  | items ds =>
    obtain ⟨j1, j2⟩ := jok
    refine ⟨fun i mm H => mm = ds.length - i ∧ i ≤ ds.length ∧ ∃ w' acc vals stt, w'.H = H ∧ Ext w1 w' ∧ RS' T.T w' stt ∧ w'.P D0 ∧ w'.H D0 = some (.lst vals) ∧ RVs T.T w' vals acc ∧ acc.length ≤ i ∧
      Po T (RVp T) w1 W σ Q ((compL (turnB c (ownS own) elt tg ifs env) (ds.drop i) acc stt).bind fun ys s => mkL m ys s), ⟨ds.length, rfl, Nat.zero_le _, w1.hide D0 (.lst []), [], [], st1, rfl, xh, sh, .inr rfl, upd_same, .nil, Nat.le_refl _, p1⟩, ?_⟩
    rintro i mm H ⟨rfl, hi, w', acc, vals, stt, rfl, y1, y2, y3, y4, y5, y6, y7⟩
    obtain ⟨k1, k2⟩ := j2 i w' y1
    by_cases hlt : i < ds.length
    · have hd : ds[i]? = some ds[i] := List.getElem?_eq_getElem hlt
      obtain ⟨g1, g2⟩ := k2 _ hd
      rw [List.drop_eq_getElem_cons hlt] at y7
      refine .inr ⟨g1, fun H' => i + 1 ≤ ds.length ∧ ∃ w' acc vals stt, w'.H = H' ∧ Ext w1 w' ∧ RS' T.T w' stt ∧ w'.P D0 ∧ w'.H D0 = some (.lst vals) ∧ RVs T.T w' vals acc ∧ acc.length ≤ i + 1 ∧
        Po T (RVp T) w1 W σ Q ((compL (turnB c (ownS own) elt tg ifs env) (ds.drop (i + 1)) acc stt).bind fun ys s => mkL m ys s), fun H' z => ⟨ds.length - (i + 1), by omega, rfl, z⟩, fun x H' yl => ?_⟩
      obtain ⟨rfl, rx⟩ := g2 x H' yl
      unfold compL at y7
      refine turn_ok (K := fun acc s => compL (turnB c (ownS own) elt tg ifs env) (ds.drop (i + 1)) acc s) hsl y1 hn ⟨hnP, hnF⟩ y2 y3 y4 y5 (by omega) ((e1.mono y1).wipe _) rx y7 fun w2 acc2 vals2 s2 z1 z2 z3 z4 z5 z6 z7 => ?_
      exact ⟨hlt, w2, acc2, vals2, s2, rfl, z1, z2, z3, z4, z5, by omega, z7⟩
    · refine .inl ⟨k1 (by omega), ?_⟩
      rw [List.drop_eq_nil_of_le (by omega)] at y7
      exact fin_ok y1 hnP y2 y3 y4 y5 (by omega) y7
  | cell n =>
    obtain ⟨j1, j2⟩ := jok
    refine ⟨fun i mm H => mm ≤ c.fuel ∧ i = c.fuel - mm ∧ ∃ w' acc vals stt, w'.H = H ∧ Ext w1 w' ∧ RS' T.T w' stt ∧ w'.P D0 ∧ w'.H D0 = some (.lst vals) ∧ RVs T.T w' vals acc ∧ acc.length ≤ i ∧ acc.length ≤ lim ∧
      Po T (RVp T) w1 W σ Q ((compR (turnB c (ownS own) elt tg ifs env) n mm i acc stt).bind fun ys s => mkL m ys s), ⟨c.fuel, Nat.le_refl _, by omega, w1.hide D0 (.lst []), [], [], st1, rfl, xh, sh, .inr rfl, upd_same, .nil, Nat.zero_le _, Nat.zero_le _, p1⟩, ?_⟩
    rintro i mm H ⟨hm, hi, w', acc, vals, stt, rfl, y1, y2, y3, y4, y5, y6, y8, y7⟩
    cases mm with
    | zero => unfold compR at y7; exact y7.elim
    | succ mm =>
      unfold compR at y7
      cases hst : stt[n]? with
      | none => rw [hst] at y7; exact y7.elim
      | some o =>
        rw [hst] at y7
        cases o with
        | lst xs =>
          dsimp only at y7
          obtain ⟨k1, k2⟩ := j2 i w' stt xs y1.toExt0 y2 hst
          have hxl : xs.length ≤ lim := (y2.ob n _ hst).1
          cases hd : xs[i]? with
          | none =>
            rw [hd] at y7
            have hge : xs.length ≤ i := List.getElem?_eq_none_iff.mp hd
            exact .inl ⟨k1 hge, fin_ok y1 hnP y2 y3 y4 y5 y8 y7⟩
          | some d =>
            rw [hd] at y7
            dsimp only at y7
            obtain ⟨g1, g2⟩ := k2 _ hd
            have hlt : i < xs.length := (List.getElem?_eq_some_iff.mp hd).1
            refine .inr ⟨g1, fun H' => ∃ w' acc vals stt, w'.H = H' ∧ Ext w1 w' ∧ RS' T.T w' stt ∧ w'.P D0 ∧ w'.H D0 = some (.lst vals) ∧ RVs T.T w' vals acc ∧ acc.length ≤ i + 1 ∧ acc.length ≤ lim ∧
              Po T (RVp T) w1 W σ Q ((compR (turnB c (ownS own) elt tg ifs env) n mm (i + 1) acc stt).bind fun ys s => mkL m ys s), fun H' z => ⟨mm, by omega, by omega, by omega, z⟩, fun x H' yl => ?_⟩
            obtain ⟨rfl, rx⟩ := g2 x H' yl
            refine turn_ok (K := fun acc s => compR (turnB c (ownS own) elt tg ifs env) n mm (i + 1) acc s) hsl y1 hn ⟨hnP, hnF⟩ y2 y3 y4 y5 (by omega) ((e1.mono y1).wipe _) rx y7 fun w2 acc2 vals2 s2 z1 z2 z3 z4 z5 z6 z7 => ?_
            exact ⟨w2, acc2, vals2, s2, rfl, z1, z2, z3, z4, z5, by omega, by omega, z7⟩
        | _ => exact y7.elim

theorem se_comp {p : Pos} {m : Bool} {cs : Scope} {own : List (Str × Nat)} {elt : E} {tg : Tg} {it : It} {ifs : Es} (h : SC T N c sc hot k m cs own elt tg it ifs) : SE T N c sc hot k (.comp p m cs own elt tg it ifs) := fun X W hX tk =>
  let P := h X W hX tk
  (pe_lc P.hc P.nd P.hi P.ok P.hg P.ht P.he (fun x => it_fold it _ x)).imp (P.im p)
/-! ### all expressions -/
theorem okE_one {e : E} {es : Es} (h : okEs T.nm nG N hot sc (.cons e es) = true) : okE T.nm nG N hot sc e = true ∧ okEs T.nm nG N hot sc es = true := by
  unfold okEs at h
  rwa [Bool.and_eq_true] at h
section
variable (Tk : TxOk T nG ps) (Lk : ClOk T) (Fk : CfOk T c) (Ck : CallOk T ps c k)
include Tk Lk Fk Ck
mutual
theorem sE : ∀ (hot : Ho) (sc : Scope) (e : E), okE T.nm nG N hot sc e = true → SE T N c sc hot (k + 1) e
  | hot, sc, .cst p kk x, h => se_cst h
  | hot, sc, .var p i, h => se_var h
  | hot, sc, .glob p g, h => se_glob Tk Fk h (Tk.glbS g)
  | hot, sc, .bin p m o a b, h => by
    have h' := h
    unfold okE at h'; rw [Bool.and_eq_true] at h'
    exact se_bin (sE hot sc a h'.1) (sE hot sc b h'.2)
  | hot, sc, .neg p a, h => by
    have h' := h
    unfold okE at h'
    exact se_neg (sE hot sc a h')
  | hot, sc, .not p a, h => by
    have h' := h
    unfold okE at h'
    exact se_not (sE hot sc a h')
  | hot, sc, .and p es, h => by
    have h' := h
    unfold okE at h'; rw [Bool.and_eq_true, decide_eq_true_eq] at h'
    exact sAnd hot sc p es h'.1 h'.2
  | hot, sc, .or p es, h => by
    have h' := h
    unfold okE at h'; rw [Bool.and_eq_true, decide_eq_true_eq] at h'
    exact sOr hot sc p es h'.1 h'.2
  | hot, sc, .cmp p o a b, h => by
    have h' := h
    unfold okE at h'; simp only [Bool.and_eq_true] at h'
    exact se_cmp h (sE hot sc a h'.1.1) (sE hot sc b h'.1.2)
  | hot, sc, .chain p o o' a b d, h => by
    have h' := h
    unfold okE at h'; simp only [Bool.and_eq_true] at h'
    exact se_chain h (sE hot sc a h'.1.1.1) (sE hot sc b h'.1.1.2) (sE hot sc d h'.1.2)
  | hot, sc, .ifx p t a b, h => by
    have h' := h
    unfold okE at h'; simp only [Bool.and_eq_true] at h'
    exact se_ifx (sT hot sc t h'.1.1.1 h'.1.1.2) (sE hot sc a h'.1.2) (sE hot sc b h'.2)
  | hot, sc, .tup p kk es, h => by
    have h' := h
    unfold okE at h'; rw [Bool.and_eq_true] at h'
    exact se_tup h (sEs hot sc es h'.1) (evs_len es)
  | hot, sc, .lst p m es, h => by
    have h' := h
    unfold okE at h'; rw [Bool.and_eq_true] at h'
    exact se_lst h (sEs hot sc es h'.1) (evs_len es)
  | hot, sc, .dnew p, h => by
    unfold okE at h; cases h
  | hot, sc, .idx p a i, h => by
    have h' := h
    unfold okE at h'; rw [Bool.and_eq_true] at h'
    exact se_idx (sE hot sc a h'.1) (sE hot sc i h'.2)
  | hot, sc, .slc p p2 m a lo hi, h => by
    have h' := h
    unfold okE at h'; simp only [Bool.and_eq_true] at h'
    exact se_slc (sE hot sc a h'.1.1) (sO hot sc lo h'.1.2) (sO hot sc hi h'.2)
  | hot, sc, .rev p p2 kk p3 p4 m a, h => by
    unfold okE at h; cases h
  | hot, sc, .call p q f es, h => by
    have h' := h
    unfold okE at h'; simp only [Bool.and_eq_true, decide_eq_true_eq] at h'
    exact se_call Tk Ck h (Tk.fnS f h'.1.2) (sEs hot sc es h'.2)
  | hot, sc, .make p q kk es, h => by
    have h' := h
    unfold okE at h'; simp only [Bool.and_eq_true, decide_eq_true_eq] at h'
    exact se_make Tk Lk Fk Ck h (Tk.iniS kk) (sEs hot sc es h'.1.2)
  | hot, sc, .bi p q b m es, h => by
    have h' := h
    unfold okE at h'; simp only [Bool.and_eq_true, decide_eq_true_eq] at h'
    exact se_bi Tk h (sEs hot sc es h'.1.2)
  | hot, sc, .isin p q a q2 t, h => by
    have h' := h
    unfold okE at h'; simp only [Bool.and_eq_true] at h'
    exact se_isin Tk h (sE hot sc a h'.2)
  | hot, sc, .meth p ap o f es, h => by
    have h' := h
    unfold okE at h'; simp only [Bool.and_eq_true] at h'
    exact se_meth Tk Lk Fk Ck h (sE hot sc o h'.1.1.1.1.2) (sEs hot sc es h'.1.1.1.2)
  | hot, sc, .bm p ap b m o es, h => by
    have h' := h
    unfold okE at h'; simp only [Bool.and_eq_true] at h'
    exact se_bm h (sE hot sc o h'.1.1.1.1.2) (sEs hot sc es h'.1.1.1.2)
  | hot, sc, .attr p o f, h => by
    have h' := h
    unfold okE at h'; simp only [Bool.and_eq_true] at h'
    exact se_attr Tk Lk Fk h (sE hot sc o h'.1)
  | hot, sc, .comp p m cs own elt tg it ifs, h => se_comp (p := p) (sC hot sc p m cs own elt tg it ifs h)
  | hot, sc, .lrng p q p2 q2 m a, h => by
    have h' := h
    unfold okE at h'; simp only [Bool.and_eq_true] at h'
    exact se_lrng Tk h (sE hot sc a h'.2)
  | hot, sc, .frz e, h => by
    have h' := h
    unfold okE at h'
    exact se_frz (sE hot sc e h')
termination_by hot sc e => (sizeOf e, 0)
theorem sC : ∀ (hot : Ho) (sc : Scope) (p : Pos) (m : Bool) (cs : Scope) (own : List (Str × Nat)) (elt : E) (tg : Tg) (it : It) (ifs : Es), okE T.nm nG N hot sc (.comp p m cs own elt tg it ifs) = true → SC T N c sc hot (k + 1) m cs own elt tg it ifs
  | hot, sc, p, m, cs, own, elt, tg, it, ifs, h => by
    have h' := h
    unfold okE at h'; simp only [Bool.and_eq_true, decide_eq_true_eq] at h'
    refine sc_comp h (sI hot sc it h'.1.1.1.2) (sE (Ho.blk cs) (relS cs sc) elt h'.1.1.1.1.1.1.2) ?_
    match ifs, h' with
    | .nil, _ => exact .inl rfl
    | .cons e .nil, h' =>
      have h2 := okE_one h'.1.1.2
      have h3 := h'.1.2
      unfold tOks at h3
      rw [Bool.and_eq_true] at h3
      exact .inr ⟨e, rfl, sT (Ho.blk cs) (relS cs sc) e h2.1 h3.1⟩
    | .cons e (.cons e' es), h' => exact absurd h'.2 (by simp [lenEs])
termination_by hot sc p m cs own elt tg it ifs => (1 + sizeOf elt + sizeOf it + sizeOf ifs, 0)
theorem sT : ∀ (hot : Ho) (sc : Scope) (e : E), okE T.nm nG N hot sc e = true → tOk e = true → ST T N c sc hot (k + 1) e
  | hot, sc, .not p a, h, ht => by
    have h' := h
    unfold okE at h'
    unfold tOk at ht
    exact st_not (sT hot sc a h' ht)
  | hot, sc, .and p es, h, ht => by
    have h' := h
    unfold okE at h'; rw [Bool.and_eq_true, decide_eq_true_eq] at h'
    unfold tOk at ht
    exact fun X W hX tk => (sAndT hot sc p es h'.1 h'.2 ht X W hX tk).pt
  | hot, sc, .or p es, h, ht => by
    have h' := h
    unfold okE at h'; rw [Bool.and_eq_true, decide_eq_true_eq] at h'
    unfold tOk at ht
    exact fun X W hX tk => (sOrT hot sc p es h'.1 h'.2 ht X W hX tk).pt
  | hot, sc, .cmp p o a b, h, ht => by
    have h' := h
    unfold okE at h'; simp only [Bool.and_eq_true] at h'
    exact st_cmp h (sE hot sc a h'.1.1) (sE hot sc b h'.1.2)
  | hot, sc, .chain p o o' a b d, h, ht => by
    have h' := h
    unfold okE at h'; simp only [Bool.and_eq_true] at h'
    exact st_chain h (sE hot sc a h'.1.1.1) (sE hot sc b h'.1.1.2) (sE hot sc d h'.1.2)
  | hot, sc, .ifx p t a b, h, ht => by unfold tOk at ht; cases ht
  | hot, sc, .frz e, h, ht => by unfold tOk at ht; cases ht
  | hot, sc, .cst p kk x, h, ht => st_plain rfl (sE hot sc _ h)
  | hot, sc, .var p i, h, ht => st_plain rfl (sE hot sc _ h)
  | hot, sc, .glob p g, h, ht => st_plain rfl (sE hot sc _ h)
  | hot, sc, .bin p m o a b, h, ht => st_plain rfl (sE hot sc _ h)
  | hot, sc, .neg p a, h, ht => st_plain rfl (sE hot sc _ h)
  | hot, sc, .tup p kk es, h, ht => st_plain rfl (sE hot sc _ h)
  | hot, sc, .lst p m es, h, ht => st_plain rfl (sE hot sc _ h)
  | hot, sc, .dnew p, h, ht => st_plain rfl (sE hot sc _ h)
  | hot, sc, .idx p a i, h, ht => st_plain rfl (sE hot sc _ h)
  | hot, sc, .slc p p2 m a lo hi, h, ht => st_plain rfl (sE hot sc _ h)
  | hot, sc, .rev p p2 kk p3 p4 m a, h, ht => st_plain rfl (sE hot sc _ h)
  | hot, sc, .call p q f es, h, ht => st_plain rfl (sE hot sc _ h)
  | hot, sc, .make p q kk es, h, ht => st_plain rfl (sE hot sc _ h)
  | hot, sc, .bi p q b m es, h, ht => st_plain rfl (sE hot sc _ h)
  | hot, sc, .lrng p q p2 q2 m a, h, ht => st_plain rfl (sE hot sc _ h)
  | hot, sc, .isin p q a q2 t, h, ht => st_plain rfl (sE hot sc _ h)
  | hot, sc, .meth p ap o f es, h, ht => st_plain rfl (sE hot sc _ h)
  | hot, sc, .bm p ap b m o es, h, ht => st_plain rfl (sE hot sc _ h)
  | hot, sc, .attr p o f, h, ht => st_plain rfl (sE hot sc _ h)
  | hot, sc, .comp p m cs own elt tg it ifs, h, ht => st_plain rfl (sE hot sc _ h)
termination_by hot sc e => (sizeOf e, 1)
theorem sAnd : ∀ (hot : Ho) (sc : Scope) (p : Pos) (es : Es), okEs T.nm nG N hot sc es = true → 0 < lenEs es → SE T N c sc hot (k + 1) (.and p es)
  | hot, sc, p, .nil, h, hl => absurd hl (by simp [lenEs])
  | hot, sc, p, .cons e .nil, h, hl => se_and1 (sE hot sc e (okE_one h).1)
  | hot, sc, p, .cons e (.cons e' es), h, hl => se_and2 (sE hot sc e (okE_one h).1) (sAnd hot sc p (.cons e' es) (okE_one h).2 (by simp [lenEs]))
termination_by hot sc p es => (sizeOf es, 0)
theorem sAndT : ∀ (hot : Ho) (sc : Scope) (p : Pos) (es : Es), okEs T.nm nG N hot sc es = true → 0 < lenEs es → tOks es = true → STw T N c sc hot (k + 1) (.and p es)
  | hot, sc, p, .nil, h, hl, ht => absurd hl (by simp [lenEs])
  | hot, sc, p, .cons e .nil, h, hl, ht => by
    unfold tOks at ht; rw [Bool.and_eq_true] at ht
    exact st_and1 (sT hot sc e (okE_one h).1 ht.1)
  | hot, sc, p, .cons e (.cons e' es), h, hl, ht => by
    unfold tOks at ht; rw [Bool.and_eq_true] at ht
    exact st_and2 (sT hot sc e (okE_one h).1 ht.1) (sAndT hot sc p (.cons e' es) (okE_one h).2 (by simp [lenEs]) ht.2)
termination_by hot sc p es => (sizeOf es, 0)
theorem sOr : ∀ (hot : Ho) (sc : Scope) (p : Pos) (es : Es), okEs T.nm nG N hot sc es = true → 0 < lenEs es → SE T N c sc hot (k + 1) (.or p es)
  | hot, sc, p, .nil, h, hl => absurd hl (by simp [lenEs])
  | hot, sc, p, .cons e .nil, h, hl => se_or1 (sE hot sc e (okE_one h).1)
  | hot, sc, p, .cons e (.cons e' es), h, hl => se_or2 (sE hot sc e (okE_one h).1) (sOr hot sc p (.cons e' es) (okE_one h).2 (by simp [lenEs]))
termination_by hot sc p es => (sizeOf es, 0)
theorem sOrT : ∀ (hot : Ho) (sc : Scope) (p : Pos) (es : Es), okEs T.nm nG N hot sc es = true → 0 < lenEs es → tOks es = true → STw T N c sc hot (k + 1) (.or p es)
  | hot, sc, p, .nil, h, hl, ht => absurd hl (by simp [lenEs])
  | hot, sc, p, .cons e .nil, h, hl, ht => by
    unfold tOks at ht; rw [Bool.and_eq_true] at ht
    exact st_or1 (sT hot sc e (okE_one h).1 ht.1)
  | hot, sc, p, .cons e (.cons e' es), h, hl, ht => by
    unfold tOks at ht; rw [Bool.and_eq_true] at ht
    exact st_or2 (sT hot sc e (okE_one h).1 ht.1) (sOrT hot sc p (.cons e' es) (okE_one h).2 (by simp [lenEs]) ht.2)
termination_by hot sc p es => (sizeOf es, 0)
theorem sEs : ∀ (hot : Ho) (sc : Scope) (es : Es), okEs T.nm nG N hot sc es = true → SEs T N c sc hot (k + 1) es
  | hot, sc, .nil, h => ses_nil
  | hot, sc, .cons e es, h => ses_cons (sE hot sc e (okE_one h).1) (sEs hot sc es (okE_one h).2)
termination_by hot sc es => (sizeOf es, 0)
theorem sO : ∀ (hot : Ho) (sc : Scope) (o : O), okO T.nm nG N hot sc o = true → SO' T N c sc hot (k + 1) o
  | hot, sc, .no, h => so_no
  | hot, sc, .yes e, h => by
    have h' := h
    unfold okO at h'
    exact so_yes (sE hot sc e h')
termination_by hot sc o => (sizeOf o, 0)
theorem sI : ∀ (hot : Ho) (sc : Scope) (it : It), okI T.nm nG N hot sc it = true → SI T N c sc hot (k + 1) it
  | hot, sc, .rng1 p q a, h => by
    have h' := h
    unfold okI at h'; rw [Bool.and_eq_true] at h'
    exact si_rng1 Tk h (sE hot sc a h'.2)
  | hot, sc, .rng2 p q a b, h => by
    have h' := h
    unfold okI at h'; rw [Bool.and_eq_true, Bool.and_eq_true] at h'
    exact si_rng2 Tk h (sE hot sc a h'.1.2) (sE hot sc b h'.2)
  | hot, sc, .of e, h => by
    have h' := h
    unfold okI at h'
    exact si_of (sE hot sc e h')
termination_by hot sc it => (sizeOf it, 0)
end
end
end
end MP
set_option linter.all false
set_option maxRecDepth 100000
set_option maxHeartbeats 4000000
/-! M11: statements mean what the interpreter says. -/
namespace MP
open PySem PySem.Spec PyProof.Rows L2
/-- what is wanted of a statement's end -/
def PoS (T : Tg') (w : Wd) (W : WX) (D : Ends) : RS → Prop
  | .next env st => ∀ w' σ', Ext w w' → RS' T.T w' st → RE T.T w' σ' env → D.nx σ' w'.H
  | .ret d st => ∀ w' v, Ext w w' → RS' T.T w' st → RV T.T w' v d → D.rt v w'.H
  | .brk env st => ∀ w' σ', Ext w w' → RS' T.T w' st → RE T.T w' σ' env → D.bk σ' w'.H
  | .cont env st => ∀ w' σ', Ext w w' → RS' T.T w' st → RE T.T w' σ' env → D.ct σ' w'.H
  | .exc c as env st => ∀ w' σ' dd fs, Ext w w' → RS' T.T w' st → RE T.T w' σ' env → w'.H dd = some (.xd fs) → XRep T.T T.xn w' c as fs → W (.ref (T.T.ca c)) (some dd) σ' w'.H
  | .bad => False
section
variable {T : Tg'} {N : List Str} {nG : Nat} {ps : Nat → List Str} {c : Cfg} {sc : Scope} {hot : Ho} {k : Nat} {X : Cx} {W : WX} {w w' : Wd} {σ : L2.St} {D D' : Ends}
theorem PoS.ext {r : RS} (x : Ext w w') (h : PoS T w W D r) : PoS T w' W D r := by
  cases r with
  | next env st => exact fun w2 σ' y => h w2 σ' (x.trans y)
  | ret d st => exact fun w2 v y => h w2 v (x.trans y)
  | brk env st => exact fun w2 σ' y => h w2 σ' (x.trans y)
  | cont env st => exact fun w2 σ' y => h w2 σ' (x.trans y)
  | exc c as env st => exact fun w2 σ' dd fs y => h w2 σ' dd fs (x.trans y)
  | bad => exact h
def sR (T : Tg') (W : WX) (f : En → St → RS) : TS := fun D σ H => ∃ w env st, w.H = H ∧ RS' T.T w st ∧ RE T.T w σ env ∧ PoS T w W D (f env st)
theorem tR_bindS {α β : Type} {rep : Rp β α} {f : En → St → Res α} {env : En} {st : St} {kk : α → St → RS} (hs : RS' T.T w st) (he : RE T.T w σ env) (p : PoS T w W D ((f env st).bindS env kk)) :
    tR T rep W f σ w.H (fun b H => ∃ w1 a st1, w1.H = H ∧ Ext w w1 ∧ RS' T.T w1 st1 ∧ RE T.T w1 σ env ∧ rep w1 b a ∧ PoS T w1 W D (kk a st1)) := by
  refine ⟨w, env, st, rfl, hs, he, ?_⟩
  cases e : f env st with
  | ok a s1 =>
    rw [e] at p
    exact fun w1 b x s r => ⟨w1, a, s1, rfl, x, s, he.mono x, r, PoS.ext x p⟩
  | exc cc as s1 =>
    rw [e] at p
    exact fun w1 dd fs x s q r => p w1 σ dd fs x s (he.mono x) q r
  | bad =>
    rw [e] at p
    exact p
/-- .. where the context stands at a later world -/
structure XS (T : Tg') (N : List Str) (sc : Scope) (hot : Ho) (k : Nat) (X : Cx) : Prop extends XO T N sc hot k X where
  own : PassesOwn (model X.prog X.w) X.A X.env X.xe
def SS (T : Tg') (N : List Str) (c : Cfg) (sc : Scope) (hot : Ho) (k : Nat) (s : S) : Prop :=
  ∀ x, s.py T.nm N = some x → ∀ X W, XS T N sc hot k X → L2N.Takes X W → PS X x (sR T W (ex c s))
def SSs (T : Tg') (N : List Str) (c : Cfg) (sc : Scope) (hot : Ho) (k : Nat) (ss : Ss) : Prop :=
  ∀ X W, XS T N sc hot k X → L2N.Takes X W → PSs X (ss.py T.nm N) (sR T W (exs c ss))

/-! ### the checks -/
def isComp : E → Bool
  | .comp .. => true
  | .frz e => isComp e
  | _ => false
def isTup : E → Bool
  | .tup .. => true
  | .frz e => isTup e
  | _ => false
def okG' (nm : Nm) (nG : Nat) (N : List Str) (hot : Ho) (sc : Scope) (e : E) : G → Bool
  | .name _ i => okT N hot sc i && (match e with
    | .frz e => !isComp e
    | _ => true)
  | .tup q kk ns => okTg N hot sc (.tup q kk ns) && (!isTup e || (match ns, e with
    | [_, _], .tup _ _ (.cons a (.cons b .nil)) => foldedForSure 8 (a.py nm N) && foldedForSure 8 (b.py nm N)
    | _, _ => false))
  | .sub _ o i => okE nm nG N hot sc o && okE nm nG N hot sc i
  | .attr _ o _ => okE nm nG N hot sc o
  | .subs _ _ gs => !hot.h && (match gs with
    | [(_, o, i), (_, o', i')] => okE nm nG N hot sc o && okE nm nG N hot sc i && okE nm nG N hot sc o' && okE nm nG N hot sc i'
    | _ => false)
theorem no_star (e : E) (v : Expr) (p : Pos) : e.py T.nm N ≠ .Starred v p := by
  cases e
  case frz e => exact no_star e v p
  all_goals exact fun z => nomatch z
/-- a, b = .. : stored from the right -/
theorem sw_two {x y : Str} {px py p1 p2 : Pos} {k1 k2 : Nat} {a b : E} {env : Env} (hk : env.scope.kind = .function) (hx : env.scope.names.lookup x = some .local) (hy : env.scope.names.lookup y = some .local) (hl : (py.line == px.line) = true) (hn : x ≠ y)
    (h1 : (foldedForSure 8 (a.py T.nm N) && foldedForSure 8 (b.py T.nm N)) = false) (h2 : (constantsAlone 8 (a.py T.nm N) && constantsAlone 8 (b.py T.nm N)) = false) :
    swappedStores [.Tuple [.Name x px, .Name y py] k1 p1] (.Tuple [a.py T.nm N, b.py T.nm N] k2 p2) env = pure (some [x, y]) := by
  have hb : env.blockKind = .function := by unfold Env.blockKind; rw [hk]; rfl
  have ex : env.kindOf x = some .local := hx
  have ey : env.kindOf y = some .local := hy
  have sa := no_star (T := T) (N := N) a
  have sb := no_star (T := T) (N := N) b
  have hl2 : py.line = px.line := by simpa using hl
  have hd : ([x, y] : List Str).eraseDups.length = 2 := by
    have e : (y == x) = false := by simpa using (Ne.symm hn)
    simp [List.eraseDups_cons, e]
  generalize a.py T.nm N = av at *
  generalize b.py T.nm N = bv at *
  unfold swappedStores
  have e1 : ([av, bv].all (foldedForSure 8)) = false := by simpa [List.all] using h1
  have e2 : ([av, bv].all (constantsAlone 8)) = false := by simpa [List.all] using h2
  simp only [hb, e1, e2]
  have e3 : ∀ (f : Expr → Bool), (∀ e, f e = true → ∃ v p, e = .Starred v p) → [av, bv].any f = false := by
    intro f hf
    rw [List.any_eq_false]
    intro e he hfe
    obtain ⟨v, p, q⟩ := hf e hfe
    rcases List.mem_cons.mp he with h | h
    · exact sa v p (h ▸ q)
    · rcases List.mem_cons.mp h with h | h
      · exact sb v p (h ▸ q)
      · cases h
  rw [if_neg (fun z => by cases z)]
  rw [if_neg (by
    rw [e3 _ (by
      intro e he
      split at he
      · exact ⟨_, _, rfl⟩
      · cases he)]
    decide)]
  simp [List.filterMap, ex, ey, hl2, hd, Expr.pos]
/-- .. constants: from the left -/
theorem sw_const {x y : Str} {px py p1 p2 : Pos} {k1 k2 : Nat} {a b : E} {env : Env} (hk : env.scope.kind = .function) 
    (h1 : (foldedForSure 8 (a.py T.nm N) && foldedForSure 8 (b.py T.nm N)) = true) :
    swappedStores [.Tuple [.Name x px, .Name y py] k1 p1] (.Tuple [a.py T.nm N, b.py T.nm N] k2 p2) env = pure none := by
  have hb : env.blockKind = .function := by unfold Env.blockKind; rw [hk]; rfl
  have sa := no_star (T := T) (N := N) a
  have sb := no_star (T := T) (N := N) b
  generalize a.py T.nm N = av at *
  generalize b.py T.nm N = bv at *
  unfold swappedStores
  have e1 : ([av, bv].all (foldedForSure 8)) = true := by simpa [List.all] using h1
  simp only [hb, e1]
  have e3 : ∀ (f : Expr → Bool), (∀ e, f e = true → ∃ v p, e = .Starred v p) → [av, bv].any f = false := by
    intro f hf
    rw [List.any_eq_false]
    intro e he hfe
    obtain ⟨v, p, q⟩ := hf e hfe
    rcases List.mem_cons.mp he with h | h
    · exact sa v p (h ▸ q)
    · rcases List.mem_cons.mp h with h | h
      · exact sb v p (h ▸ q)
      · cases h
  rw [if_neg (fun z => by cases z)]
  rw [if_neg (by
    rw [e3 _ (by
      intro e he
      split at he
      · exact ⟨_, _, rfl⟩
      · cases he)]
    decide)]
  simp
theorem no_swap : ∀ (e : E), isComp e = false → ∀ (t : Option Expr) (l : Nat) (env : Env), swapsWith (e.py T.nm N) t l env = pure false
  | .frz e, h, t, l, env => no_swap e (by unfold isComp at h; exact h) t l env
  | .comp .., h, _, _, _ => by unfold isComp at h; cases h
  | .cst .., _, _, _, _ => rfl
  | .var .., _, _, _, _ => rfl
  | .glob .., _, _, _, _ => rfl
  | .bin .., _, _, _, _ => rfl
  | .neg .., _, _, _, _ => rfl
  | .not .., _, _, _, _ => rfl
  | .and .., _, _, _, _ => rfl
  | .or .., _, _, _, _ => rfl
  | .cmp .., _, _, _, _ => rfl
  | .chain .., _, _, _, _ => rfl
  | .ifx .., _, _, _, _ => rfl
  | .tup .., _, _, _, _ => rfl
  | .lst .., _, _, _, _ => rfl
  | .dnew .., _, _, _, _ => rfl
  | .idx .., _, _, _, _ => rfl
  | .slc .., _, _, _, _ => rfl
  | .rev .., _, _, _, _ => rfl
  | .call .., _, _, _, _ => rfl
  | .make .., _, _, _, _ => rfl
  | .bi .., _, _, _, _ => rfl
  | .isin .., _, _, _, _ => rfl
  | .meth .., _, _, _, _ => rfl
  | .bm .., _, _, _, _ => rfl
  | .attr .., _, _, _, _ => rfl
  | .lrng .., _, _, _, _ => rfl
theorem swap_other : ∀ (e : E) {t : Expr} (l : Nat) (env : Env), (∀ a b s p, swapsWith (.ListComp a b s p) (some t) l env = pure false) → swapsWith (e.py T.nm N) (some t) l env = pure false
  | .frz e, t, l, env, h => swap_other e l env h
  | .comp .., t, l, env, h => h _ _ _ _
  | .cst .., _, _, _, _ => rfl
  | .var .., _, _, _, _ => rfl
  | .glob .., _, _, _, _ => rfl
  | .bin .., _, _, _, _ => rfl
  | .neg .., _, _, _, _ => rfl
  | .not .., _, _, _, _ => rfl
  | .and .., _, _, _, _ => rfl
  | .or .., _, _, _, _ => rfl
  | .cmp .., _, _, _, _ => rfl
  | .chain .., _, _, _, _ => rfl
  | .ifx .., _, _, _, _ => rfl
  | .tup .., _, _, _, _ => rfl
  | .lst .., _, _, _, _ => rfl
  | .dnew .., _, _, _, _ => rfl
  | .idx .., _, _, _, _ => rfl
  | .slc .., _, _, _, _ => rfl
  | .rev .., _, _, _, _ => rfl
  | .call .., _, _, _, _ => rfl
  | .make .., _, _, _, _ => rfl
  | .bi .., _, _, _, _ => rfl
  | .isin .., _, _, _, _ => rfl
  | .meth .., _, _, _, _ => rfl
  | .bm .., _, _, _, _ => rfl
  | .attr .., _, _, _, _ => rfl
  | .lrng .., _, _, _, _ => rfl
theorem no_tup : ∀ (e : E), isTup e = false → ∀ (ts : List Expr) (k1 : Nat) (p1 : Pos) (env : Env), swappedStores [.Tuple ts k1 p1] (e.py T.nm N) env = pure none
  | .frz e, h, ts, k1, p1, env => no_tup e (by unfold isTup at h; exact h) ts k1 p1 env
  | .tup .., h, _, _, _, _ => by unfold isTup at h; cases h
  | .cst .., _, _, _, _, _ => rfl
  | .var .., _, _, _, _, _ => rfl
  | .glob .., _, _, _, _, _ => rfl
  | .bin .., _, _, _, _, _ => rfl
  | .neg .., _, _, _, _, _ => rfl
  | .not .., _, _, _, _, _ => rfl
  | .and .., _, _, _, _, _ => rfl
  | .or .., _, _, _, _, _ => rfl
  | .cmp .., _, _, _, _, _ => rfl
  | .chain .., _, _, _, _, _ => rfl
  | .ifx .., _, _, _, _, _ => rfl
  | .lst .., _, _, _, _, _ => rfl
  | .dnew .., _, _, _, _, _ => rfl
  | .idx .., _, _, _, _, _ => rfl
  | .slc .., _, _, _, _, _ => rfl
  | .rev .., _, _, _, _, _ => rfl
  | .call .., _, _, _, _, _ => rfl
  | .make .., _, _, _, _, _ => rfl
  | .bi .., _, _, _, _, _ => rfl
  | .isin .., _, _, _, _, _ => rfl
  | .meth .., _, _, _, _, _ => rfl
  | .bm .., _, _, _, _, _ => rfl
  | .attr .., _, _, _, _, _ => rfl
  | .lrng .., _, _, _, _, _ => rfl
  | .comp .., _, _, _, _, _ => rfl
theorem sw_subs {a b a' b' : Expr} {p p' q : Pos} {k1 : Nat} (value : Expr) (env : Env) : swappedStores [.Tuple [.Subscript a b p, .Subscript a' b' p'] k1 q] value env = pure none := by
  cases value
  case Tuple vs k2 p2 =>
    unfold swappedStores
    simp only [List.filterMap]
    repeat' split
    all_goals first | rfl | (rename_i h1 h2 h3; exact absurd rfl (by simpa using h3)) | skip
    all_goals simp_all
  all_goals rfl
theorem sw_one {t : Expr} (h : ∀ ts k p, t ≠ .Tuple ts k p) (h2 : ∀ ts p, t ≠ .List ts p) (value : Expr) (env : Env) : swappedStores [t] value env = pure none := by
  cases t
  case Tuple => exact absurd rfl (h _ _ _)
  case List => exact absurd rfl (h2 _ _)
  all_goals rfl

/-! ### small statements -/
theorem ss_expr {p : Pos} {e : E} (hc : isComp e = false) (he : SE T N c sc hot k e) : SS T N c sc hot k (.expr p e) := by
  intro x hx X W hX tk
  unfold S.py at hx
  cases hx
  refine (ps_expr (he X W hX.toXO tk) (no_swap e hc _ _ _)).imp fun D σ H ⟨w, env, st, e, hs, hen, p⟩ => ?_
  subst e
  unfold ex at p
  refine (tR_bindS hs hen p).mono fun v H1 ⟨w1, d, st1, h1, x1, s1, e1, v1, p1⟩ => ?_
  subst h1
  exact p1 w1 σ (Ext.refl w1) s1 e1
theorem ss_ret {p : Pos} {e : E} (he : SE T N c sc hot k e) : SS T N c sc hot k (.ret p e) := by
  intro x hx X W hX tk
  unfold S.py at hx
  cases hx
  refine (ps_ret (he X W hX.toXO tk)).imp fun D σ H ⟨w, env, st, e, hs, hen, p⟩ => ?_
  subst e
  unfold ex at p
  refine (tR_bindS hs hen p).mono fun v H1 ⟨w1, d, st1, h1, x1, s1, e1, v1, p1⟩ => ?_
  subst h1
  exact p1 w1 v (Ext.refl w1) s1 v1
theorem ss_retN {p : Pos} : SS T N c sc hot k (.retN p) := by
  intro x hx X W hX tk
  unfold S.py at hx
  cases hx
  refine ps_retN.imp fun D σ H ⟨w, env, st, e, hs, hen, p⟩ => ?_
  subst e
  unfold ex at p
  exact p w _ (Ext.refl w) hs .non
theorem ss_pass {p : Pos} : SS T N c sc hot k (.pass p) := by
  intro x hx X W hX tk
  unfold S.py at hx
  cases hx
  refine ps_pass.imp fun D σ H ⟨w, env, st, e, hs, hen, p⟩ => ?_
  subst e
  unfold ex at p
  exact p w σ (Ext.refl w) hs hen
theorem ss_brk {p : Pos} : SS T N c sc hot k (.brk p) := by
  intro x hx X W hX tk
  unfold S.py at hx
  cases hx
  refine ps_break.imp fun D σ H ⟨w, env, st, e, hs, hen, p⟩ => ?_
  subst e
  unfold ex at p
  exact p w σ (Ext.refl w) hs hen
theorem ss_cont {p : Pos} : SS T N c sc hot k (.cont p) := by
  intro x hx X W hX tk
  unfold S.py at hx
  cases hx
  refine ps_continue.imp fun D σ H ⟨w, env, st, e, hs, hen, p⟩ => ?_
  subst e
  unfold ex at p
  exact p w σ (Ext.refl w) hs hen
theorem ss_raise0 {p p2 q : Pos} {cl : Nat} {es : Es} (hn : c.exf cl = none) : SS T N c sc hot k (.raise p p2 q cl es) := by
  intro x hx X W hX tk
  refine ps_never.imp fun D σ H ⟨w, env, st, e, hs, hen, p⟩ => ?_
  unfold ex at p
  rw [hn] at p
  exact p.elim
theorem ss_if {p : Pos} {t : E} {a b : Ss} (ht : ST T N c sc hot k t) (ha : SSs T N c sc hot k a) (hb : SSs T N c sc hot k b) : SS T N c sc hot k (.if_ p t a b) := by
  intro x hx X W hX tk
  unfold S.py at hx
  cases hx
  refine (ps_if (ht X W hX.toXO tk) (ha X W hX tk) (hb X W hX tk)).imp fun D σ H ⟨w, env, st, e, hs, hen, p⟩ => ?_
  subst e
  unfold ex at p
  refine (tR_bindS hs hen p).mono fun v H1 ⟨w1, d, st1, h1, x1, s1, e1, v1, p1⟩ => ?_
  subst h1 v1
  cases v with
  | true => exact ⟨w1, env, st1, rfl, s1, e1, p1⟩
  | false => exact ⟨w1, env, st1, rfl, s1, e1, p1⟩
theorem pos_nx {D : Ends} {n : L2.St → Hp → Prop} {r : RS} {kk : En → St → RS} (p : PoS T w W D (match r with
    | .next e s => kk e s
    | r => r)) (h : ∀ e s w' σ', Ext w w' → RS' T.T w' s → RE T.T w' σ' e → PoS T w' W D (kk e s) → n σ' w'.H) : PoS T w W { D with nx := n } r := by
  cases r with
  | next e s => exact fun w' σ' x hs he => h e s w' σ' x hs he (PoS.ext x p)
  | ret d s => exact p
  | brk e s => exact p
  | cont e s => exact p
  | exc cc as e s => exact p
  | bad => exact p
theorem sss_nil : SSs T N c sc hot k .nil := by
  intro X W hX tk
  refine pss_nil.imp fun D σ H ⟨w, env, st, e, hs, hen, p⟩ => ?_
  subst e
  unfold exs at p
  exact p w σ (Ext.refl w) hs hen
theorem sss_cons {s : S} {ss : Ss} (h1 : SS T N c sc hot k s) (h2 : SSs T N c sc hot k ss) (hg : s.py T.nm N = none → ∃ i, s = .frz i) : SSs T N c sc hot k (.cons s ss) := by
  intro X W hX tk
  cases e : s.py T.nm N with
  | some x =>
    have e2 : (Ss.cons s ss).py T.nm N = x :: ss.py T.nm N := by
      show (match s.py T.nm N with | some x => x :: ss.py T.nm N | none => ss.py T.nm N) = _
      rw [e]
    rw [e2]
    refine (pss_cons (h1 x e X W hX tk) (h2 X W hX tk)).imp fun D σ H ⟨w, env, st, e, hs, hen, p⟩ => ?_
    subst e
    unfold exs at p
    exact ⟨w, env, st, rfl, hs, hen, pos_nx p fun e s w' σ' x hs he p' => ⟨w', e, s, rfl, hs, he, p'⟩⟩
  | none =>
    have e2 : (Ss.cons s ss).py T.nm N = ss.py T.nm N := by
      show (match s.py T.nm N with | some x => x :: ss.py T.nm N | none => ss.py T.nm N) = _
      rw [e]
    rw [e2]
    obtain ⟨i, rfl⟩ := hg e
    refine (h2 X W hX tk).imp fun D σ H ⟨w, env, st, e, hs, hen, p⟩ => ?_
    subst e
    unfold exs ex at p
    cases q : env[i]?.join with
    | none => rw [q] at p; exact p.elim
    | some d =>
      rw [q] at p
      dsimp only at p
      cases q2 : frz 6 d st with
      | none => rw [q2] at p; exact p.elim
      | some z =>
        obtain ⟨y, s'⟩ := z
        rw [q2] at p
        have q3 : env[i]? = some (some d) := by
          cases h : env[i]? with
          | none => rw [h] at q; cases q
          | some o => rw [h] at q; cases o with
            | none => cases q
            | some d' => cases q; rfl
        rcases hen.2 i d q3 with ⟨kk, as, rfl⟩ | ⟨v, g1, g2⟩
        · simp [frz] at q2
        · obtain ⟨w2, a1, a2, a3, a4⟩ := frz_ok 6 d st y s' w v q2 hs g2
          have he2 : RE T.T w2 σ (env.set i (some y)) := by
            have z := (hen.mono a2).set (i := i) a4
            have z2 : σ.set i (some v) = σ := by
              refine List.ext_getElem? fun j => ?_
              by_cases hj : i = j
              · subst hj
                rw [List.getElem?_set_self (List.getElem?_eq_some_iff.mp g1).1, g1]
              · rw [List.getElem?_set_ne hj]
            rwa [z2] at z
          exact ⟨w2, _, s', a1, a3, he2, PoS.ext a2 p⟩

/-! ### assignments -/
def gR (T : Tg') (W : WX) (c : Cfg) (g : G) : TG := fun v σ H Q => ∃ w d env st, w.H = H ∧ RS' T.T w st ∧ RE T.T w σ env ∧ RV T.T w v d ∧ PoS T w W { nx := Q, rt := fun _ _ => False } (asgG c g d env st)
theorem set_of {st st' : St} {a i v : MP.D} {va vi vv : V} {Q : Hp → Prop} (hs : RS' T.T w st) (ha : RV T.T w va a) (hi : RV T.T w vi i) (hv : RV T.T w vv v) (e : setD a i v st = some st') (q : ∀ w', Ext w w' → RS' T.T w' st' → Q w'.H) : rSetL va vi vv w.H Q := by
  unfold setD at e
  cases ha with
  | @ref n h =>
    dsimp only at e
    cases q1 : st[n]? with
    | none => rw [q1] at e; cases e
    | some o =>
      rw [q1] at e
      cases o with
      | lst xs =>
        cases hi with
        | int kk =>
          dsimp only at e
          cases q2 : ixN xs.length kk with
          | none => rw [q2] at e; cases e
          | some j =>
            rw [q2] at e
            cases e
            obtain ⟨hl, vs, g1, g2⟩ := hs.ob n _ q1
            have x := Wd.wr_ext (o := .lst (vs.set j vv)) hs q1 (by simp)
            refine ⟨_, vs, kk, j, rfl, rfl, g1, by rw [g2.length]; exact q2, ?_⟩
            refine q (w.wr (w.r n) (.lst (vs.set j vv))) x (RS'.wr hs q1 (by simp) ⟨by rw [List.length_set]; exact hl, _, upd_same, ?_⟩)
            exact (RVs.set hv j g2).mono x
        | _ => cases e
      | _ => cases e
  | _ => cases e
theorem sub_assign (o i : E) (p : Pos) (env : Env) (v : Value) : assign (.Subscript (o.py T.nm N) (i.py T.nm N) p) env v = (do
      let ov ← holding [v] (eval (o.py T.nm N) env)
      let iv ← holding [v, ov] (eval (i.py T.nm N) env)
      standAt p
      holding [v, ov, iv] (setItem ov iv v)
      release [v, ov, iv] []) := by
  have go : ∀ i : E, ∀ oe : Expr, assign (.Subscript oe (i.py T.nm N) p) env v = (do
      let ov ← holding [v] (eval oe env)
      let iv ← holding [v, ov] (eval (i.py T.nm N) env)
      standAt p
      holding [v, ov, iv] (setItem ov iv v)
      release [v, ov, iv] []) := by
    intro i
    induction i using E.rec (motive_2 := fun _ => True) (motive_3 := fun _ => True) (motive_4 := fun _ => True) with
    | frz e ih => exact ih
    | _ => first | trivial | (intro oe; rfl)
  exact go i _
theorem pg_one_sub {p : Pos} {o i : E} (hX : XO T N sc hot k X) (tk : L2N.Takes X W) (ho : SE T N c sc hot k o) (hi : SE T N c sc hot k i) : PG X (.Subscript (o.py T.nm N) (i.py T.nm N) p) (gR T W c (.sub p o i)) := by
  refine ⟨fun pins s σ H v u Q I r ⟨w, d, env, st, e, hs, hen, rv, pp⟩ => (pg_sub (pos := p) (ho X W hX tk) (hi X W hX tk) set_list (sub_assign o i p X.env)).run pins s σ H v u Q I r ?_⟩
  subst e
  unfold asgG at pp
  refine (tR_bindS hs hen pp).mono fun x H1 ⟨w1, d1, st1, h1, x1, s1, e1, v1, p1⟩ => ?_
  subst h1
  refine (tR_bindS s1 e1 p1).mono fun y H2 ⟨w2, d2, st2, h2, x2, s2, e2, v2, p2⟩ => ?_
  subst h2
  cases q : setD d1 d2 d st2 with
  | none => rw [q] at p2; exact p2.elim
  | some s' =>
    rw [q] at p2
    exact set_of s2 (v1.mono x2) v2 (rv.mono (x1.trans x2)) q fun w' x' hs' => p2 w' σ x' hs' (e2.mono x')
end
end MP
set_option linter.all false
set_option maxRecDepth 100000
set_option maxHeartbeats 4000000
/-! M12: assignments, loops; all statements. -/
namespace MP
open PySem PySem.Spec PyProof.Rows L2
section
variable {T : Tg'} {N : List Str} {nG : Nat} {ps : Nat → List Str} {c : Cfg} {sc : Scope} {hot : Ho} {k : Nat} {X : Cx} {W : WX} {w w' : Wd} {σ : L2.St}
/-- it ends, or raises -/
def RS.str : RS → Prop
  | .next _ _ => True
  | .exc _ _ _ _ => True
  | .bad => True
  | _ => False
theorem bindS_str {α : Type} {env : En} {r : Res α} {kk : α → St → RS} (h : ∀ a s, (kk a s).str) : (r.bindS env kk).str := by
  cases r with
  | ok a s => exact h a s
  | exc => trivial
  | bad => trivial
theorem asg_str (g : G) (d : MP.D) (env : En) (st : St) : (asgG c g d env st).str := by
  unfold asgG
  split
  · trivial
  · split <;> trivial
  · exact bindS_str fun x s => bindS_str fun y s => by split <;> trivial
  · refine bindS_str fun x s => ?_
    repeat' split
    all_goals trivial
  · split
    · split
      · exact bindS_str fun _ _ => trivial
      · trivial
    · trivial
theorem PoS.str {D : Ends} {r : RS} (h : r.str) (p : PoS T w W D r) : PoS T w W { nx := D.nx, rt := fun _ _ => False } r := by
  cases r with
  | next e s => exact p
  | exc cc as e s => exact p
  | bad => exact p
  | _ => exact h.elim
/-- a value, then a target -/
theorem asg_im {e : E} {g : G} {D : Ends} {H : Hp} (h : sR T W (fun env st => (ev c e env st).bindS env fun d s => asgG c g d env s) D σ H) : tAsg (tR T (RVp T) W (ev c e)) (gR T W c g) D σ H := by
  obtain ⟨w, env, st, e, hs, hen, p⟩ := h
  subst e
  exact (tR_bindS hs hen p).mono fun x H1 ⟨w1, d1, st1, h1, x1, s1, e1, v1, p1⟩ => ⟨w1, d1, env, st1, h1, s1, e1, v1, p1.str (asg_str _ _ _ _)⟩
theorem bind_bindS {α β : Type} (r : Res α) (f : α → St → Res β) (env : En) (kk : β → St → RS) : (r.bind f).bindS env kk = r.bindS env fun a s => (f a s).bindS env kk := by
  cases r <;> rfl
theorem sw_nm {x : Str} {q : Pos} (value : Expr) (env : Env) : swappedStores [.Name x q] value env = pure none := rfl
theorem sw_sb {a b : Expr} {q : Pos} (value : Expr) (env : Env) : swappedStores [.Subscript a b q] value env = pure none := rfl
theorem pg_nameG {p : Pos} {i : Nat} (hX : XO T N sc hot k X) (h : okT N hot sc i = true) : PG X (.Name (slotN N i) p) (gR T W c (.name p i)) := by
  obtain ⟨t1, t2, t3⟩ := hX.tgt h
  refine ⟨fun pins s σ H v u Q I r ⟨w, d, env, st, e, hs, hen, rv, pp⟩ => (pg_name (pos := p) (by rw [hX.xN]; exact hX.nd) t1 t2 t3).run pins s σ H v u Q I r ?_⟩
  subst e
  unfold asgG at pp
  exact pp w _ (Ext.refl w) hs (hen.set rv)
/-- the statement, as a value and a target -/
theorem ss_asgA {p : Pos} {g : G} {e : E} (h : ∀ X W, XS T N sc hot k X → L2N.Takes X W → PS X (.Assign [g.py T.nm N] (e.py T.nm N) p) (tAsg (tR T (RVp T) W (ev c e)) (gR T W c g))) : SS T N c sc hot k (.asg p g e) := by
  intro x hx X W hX tk
  unfold S.py at hx
  cases hx
  refine (h X W hX tk).imp fun D σ H z => ?_
  refine asg_im ?_
  obtain ⟨w, env, st, e, hs, hen, p⟩ := z
  unfold ex at p
  exact ⟨w, env, st, e, hs, hen, p⟩
theorem ss_name {p q : Pos} {i : Nat} {e : E} (hi : okT N hot sc i = true) (hc : isComp e = false) (he : SE T N c sc hot k e) : SS T N c sc hot k (.asg p (.name q i) e) :=
  ss_asgA fun X W hX tk => by
    show PS X (.Assign [.Name (slotN N i) q] (e.py T.nm N) p) _
    exact ps_asg (he X W hX.toXO tk) (pg_nameG hX.toXO hi) (no_swap (T := T) (N := N) e hc (some (.Name (slotN N i) q)) p.line X.env) (sw_nm _ _)
theorem ss_nameC {p q p' : Pos} {i : Nat} {m : Bool} {cs : Scope} {own : List (Str × Nat)} {elt : E} {tg : Tg} {it : It} {ifs : Es} (hi : okT N hot sc i = true) (he : SC T N c sc hot k m cs own elt tg it ifs) : SS T N c sc hot k (.asg p (.name q i) (.comp p' m cs own elt tg it ifs)) := by
  refine ss_asgA fun X W hX tk => ?_
  by_cases hb : (decide (sc.names.lookup (slotN N i) = some .local) && q.line == p'.line && !(cs.names.any fun (n, k) => n == slotN N i && (k == .local || k == .cell))) = true
  · simp only [Bool.and_eq_true, Bool.not_eq_true', decide_eq_true_eq] at hb
    obtain ⟨⟨b1, b2⟩, b3⟩ := hb
    have P := he X W hX.toXO tk
    obtain ⟨t1, t2, t3⟩ := hX.toXO.tgt hi
    refine ⟨fun pins s σ H D I h => ?_⟩
    have ps := ps_setLc (pos := p') (spos := p) (py := q) P.hc P.nd t1 (by rw [hX.sc]; exact b1) (sw_true I.ok.kind (by rw [hX.sc]; exact b1) b2 b3) P.hi P.ok P.hg P.ht P.he (fun x => it_fold it _ x)
    refine ps.run pins s σ H D I ?_
    refine P.im p' σ H _ ?_
    refine tR.mono h fun b H1 ⟨w, d, env, st, e, hs, hen, rv, pp⟩ => ?_
    subst e
    unfold asgG at pp
    exact pp w _ (Ext.refl w) hs (hen.set rv)
  · refine ⟨fun pins s σ H D I h => ?_⟩
    have sw : swapsWithSole [.Name (slotN N i) q] ((E.comp p' m cs own elt tg it ifs).py T.nm N) p.line X.env = pure false := ?_
    · exact (ps_asg (tg := .Name (slotN N i) q) (pos := p) (se_comp (p := p') he X W hX.toXO tk) (pg_nameG hX.toXO hi) sw (sw_nm _ _)).run pins s σ H D I h
    have ek : X.env.kindOf (slotN N i) = sc.names.lookup (slotN N i) := by unfold Env.kindOf; rw [hX.sc]
    have hbk : X.env.blockKind = .function := by unfold Env.blockKind; rw [I.ok.kind]; rfl
    show swapsWith (.ListComp (elt.py T.nm N) _ cs p') (some (.Name (slotN N i) q)) p.line X.env = pure false
    unfold swapsWith
    simp only [hbk, ek]
    have hb2 : (sc.names.lookup (slotN N i) == some NameKind.local && q.line == p'.line && !(cs.names.any fun (n, k) => n == slotN N i && (k == .local || k == .cell))) = false := by
      rw [Bool.eq_false_iff]
      intro z
      apply hb
      simp only [Bool.and_eq_true, beq_iff_eq, decide_eq_true_eq] at z ⊢
      exact z
    show (pure ((ScopeKind.function == ScopeKind.function) && (sc.names.lookup (slotN N i) == some NameKind.local) && q.line == p'.line && !(cs.names.any fun (n, k) => n == slotN N i && (k == .local || k == .cell))) : Sem Bool) = pure false
    have e1 : (ScopeKind.function == ScopeKind.function) = true := rfl
    rw [e1, Bool.true_and, hb2]
theorem pg_tgG {p : Pos} {kk : Nat} {ns : List (Pos × Nat)} (hX : XO T N sc hot k X) (h : okTg N hot sc (.tup p kk ns) = true) : PG X ((G.tup p kk ns).py T.nm N) (gR T W c (.tup p kk ns)) := by
  refine ⟨fun pins s σ H v u Q I r ⟨w, d, env, st, e, hs, hen, rv, pp⟩ => (pg_tg hX h).run pins s σ H v u Q I r ?_⟩
  subst e
  unfold asgG at pp
  dsimp only at pp
  cases q : bindT (.tup p kk ns) d env with
  | none => rw [q] at pp; exact pp.elim
  | some e =>
    rw [q] at pp
    exact ⟨w, d, env, e, rfl, hen, rv, q, fun σ' h1 _ => pp w σ' (Ext.refl w) hs h1⟩
theorem ss_tup {p q : Pos} {kk : Nat} {ns : List (Pos × Nat)} {e : E} (h : okG' T.nm nG N hot sc e (.tup q kk ns) = true) (he : SE T N c sc hot k e) : SS T N c sc hot k (.asg p (.tup q kk ns) e) := by
  unfold okG' at h
  rw [Bool.and_eq_true] at h
  refine ss_asgA fun X W hX tk => ⟨fun pins s σ H D I z => (ps_asg (tg := (G.tup q kk ns).py T.nm N) (pos := p) (he X W hX.toXO tk) (pg_tgG hX.toXO h.1) (swap_other (T := T) (N := N) (t := .Tuple (ns.map fun q => .Name (slotN N q.2) q.1) kk q) e p.line X.env fun _ _ _ _ => rfl) ?_).run pins s σ H D I z⟩
  by_cases ht : isTup e = true
  · have h2 := h.2
    rw [ht, Bool.not_true, Bool.false_or] at h2
    split at h2
    · exact sw_const I.ok.kind h2
    · cases h2
  · exact no_tup e (by simpa using ht) _ _ _ _
theorem ss_sub {p q : Pos} {o i e : E} (ho : SE T N c sc hot k o) (hi : SE T N c sc hot k i) (he : SE T N c sc hot k e) : SS T N c sc hot k (.asg p (.sub q o i) e) :=
  ss_asgA fun X W hX tk => by
    show PS X (.Assign [.Subscript (o.py T.nm N) (i.py T.nm N) q] (e.py T.nm N) p) _
    exact ps_asg (he X W hX.toXO tk) (pg_one_sub hX.toXO tk ho hi) (swap_other (T := T) (N := N) (t := .Subscript (o.py T.nm N) (i.py T.nm N) q) e p.line X.env fun _ _ _ _ => rfl) (sw_sb _ _)
theorem putF_fs {f : Nat} {v : V} {d : MP.D} (inj : ∀ f g, T.T.fld f = T.T.fld g → f = g) (r : RV T.T w v d) : ∀ {vs : List (Str × V)} {fs : List (Nat × MP.D)}, RFs T.T w vs fs → RFs T.T w (L2.putF (T.T.fld f) v vs) (putF f d fs) ∧ (putF f d fs).length ≤ fs.length + 1
  | _, _, .nil => ⟨.cons r .nil, by simp [putF]⟩
  | _, _, .cons (f := g) (v := v') (d := d') (vs := vr) (ds := dr) h t => by
    unfold L2.putF putF
    by_cases e : g = f
    · subst e
      rw [if_pos rfl, if_pos rfl]
      exact ⟨.cons r t, by simp⟩
    · rw [if_neg (fun z => e (inj _ _ z)), if_neg e]
      obtain ⟨h1, h2⟩ := putF_fs (vs := vr) (fs := dr) inj r t
      exact ⟨.cons h h1, by simp only [List.length_cons]; omega⟩
theorem ss_attr (O : TxOk T nG ps) (L : ClOk T) (Cc : CfOk T c) {p q : Pos} {o e : E} {f : Nat} (ho : SE T N c sc hot k o) (he : SE T N c sc hot k e) : SS T N c sc hot k (.asg p (.attr q o f) e) := by
  intro x hx X W hX tk
  unfold S.py at hx
  cases hx
  refine (ps_fld (ho X W hX.toXO tk) (he X W hX.toXO tk) (swap_other e _ _ fun _ _ _ _ => rfl)).imp fun D σ H ⟨w, env, st, e', hs, hen, p⟩ => ?_
  subst e'
  unfold ex at p
  refine (tR_bindS hs hen p).mono fun x H1 ⟨w1, d1, st1, h1, x1, s1, e1, v1, p1⟩ => ?_
  subst h1
  unfold asgG at p1
  refine (tR_bindS s1 e1 p1).mono fun y H2 ⟨w2, d2, st2, h2, x2, s2, e2, v2, p2⟩ => ?_
  subst h2
  cases q1 : clsD st2 d2 with
  | none => rw [q1] at p2; exact p2.elim
  | some cl =>
    rw [q1] at p2
    dsimp only at p2
    by_cases q2 : c.isF cl f = true
    · rw [if_pos q2] at p2
      cases q3 : setF d2 f d1 st2 with
      | none => rw [q3] at p2; exact p2.elim
      | some s' =>
        rw [q3] at p2
        dsimp only at p2
        rw [Cc.isF] at q2
        obtain ⟨k1, k2⟩ := L.noat cl f q2
        unfold setF at q3
        cases v2 with
        | @ref n hn =>
          dsimp only at q3
          cases q4 : st2[n]? with
          | none => rw [q4] at q3; cases q3
          | some ob =>
            rw [q4] at q3
            cases ob with
            | ins cl' fs =>
              dsimp only at q3
              by_cases hl : fs.length < 40
              · rw [if_pos hl] at q3
                cases q3
                have ecl : cl' = cl := by
                  unfold clsD at q1
                  dsimp only at q1
                  rw [q4] at q1
                  exact Option.some.inj q1
                subst ecl
                obtain ⟨dx, vs, g1, g2, g3⟩ := s2.ob n _ q4
                have hlen : vs.length = fs.length := by
                  have go : ∀ {vs : List (Str × V)} {fs : List (Nat × MP.D)}, RFs T.T w2 vs fs → vs.length = fs.length := by
                    intro vs
                    induction vs with
                    | nil => intro fs h; cases h; rfl
                    | cons a vs ih => intro fs h; cases h with | cons h r => simp [ih r]
                  exact go g2
                have xx := Wd.wr_ext (o := .ins (T.T.ca cl') dx (L2.putF (T.nm.fld f) x vs)) s2 q4 (by simp)
                obtain ⟨r1, r2⟩ := putF_fs (vs := vs) (fs := fs) (f := f) (v := x) (d := d1) L.inj (v1.mono x2) g2
                refine ⟨_, _, dx, vs, rfl, g1, by rw [hX.K]; exact k1, by rw [hX.K, ← O.fldN]; exact k2, by omega, ?_⟩
                refine p2 (w2.wr (w2.r n) (.ins (T.T.ca cl') dx (L2.putF (T.nm.fld f) x vs))) σ xx (RS'.wr s2 q4 (by simp) ⟨dx, _, upd_same, ?_, by omega⟩) (e2.mono xx)
                rw [← O.fldN]
                rw [← O.fldN] at xx
                exact r1.mono xx
              · rw [if_neg hl] at q3; cases q3
            | _ => cases q3
        | _ => cases q3
    · rw [if_neg q2] at p2; exact p2.elim
theorem two_of {xs : List MP.D} (h : xs.length = 2) : ∃ a b, xs = [a, b] := by
  cases xs with
  | nil => cases h
  | cons a xs => cases xs with
    | nil => cases h
    | cons b xs => cases xs with
      | nil => exact ⟨a, b, rfl⟩
      | cons => simp at h
theorem ss_subs {p q : Pos} {kk : Nat} {p1 p2 : Pos} {o i o' i' e : E} (hh : hot.h = false) (ho : SE T N c sc hot k o) (hi : SE T N c sc hot k i) (ho' : SE T N c sc hot k o') (hi' : SE T N c sc hot k i') (he : SE T N c sc hot k e) :
    SS T N c sc hot k (.asg p (.subs q kk [(p1, o, i), (p2, o', i')]) e) := by
  refine ss_asgA fun X W hX tk => ?_
  show PS X (.Assign [.Tuple [.Subscript (o.py T.nm N) (i.py T.nm N) p1, .Subscript (o'.py T.nm N) (i'.py T.nm N) p2] kk q] (e.py T.nm N) p) _
  refine ps_asg (he X W hX.toXO tk) ?_ (swap_other (T := T) (N := N) (t := .Tuple [.Subscript (o.py T.nm N) (i.py T.nm N) p1, .Subscript (o'.py T.nm N) (i'.py T.nm N) p2] kk q) e p.line X.env fun _ _ _ _ => rfl) (sw_subs _ _)
  refine ⟨fun pins s σ H v u Q I r ⟨w, d, env, st, e, hs, hen, rv, pp⟩ => (pg_tup (k := kk) (pos := q) (n := 2) (hX.calm hh) (pgs_cons (pg_sub (pos := p1) (ho X W hX.toXO tk) (hi X W hX.toXO tk) set_list (sub_assign o i p1 X.env)) (pgs_cons (pg_sub (pos := p2) (ho' X W hX.toXO tk) (hi' X W hX.toXO tk) set_list (sub_assign o' i' p2 X.env)) pgs_nil))).run pins s σ H v u Q I r ?_⟩
  subst e
  unfold asgG at pp
  cases rv with
  | @tup a vs xs ht hl rv =>
    dsimp only at pp
    by_cases hn : xs.length = [(p1, o, i), (p2, o', i')].length
    · rw [if_pos hn] at pp
      obtain ⟨d1, d2, rfl⟩ := two_of (hn : xs.length = 2)
      obtain ⟨v1, v2, rfl, r1, r2⟩ := rvs2 rv
      · 
        refine ⟨a, [v1, v2], rfl, by rw [hX.K]; exact ht.1, rfl, v1, [v2], rfl, ?_⟩
        unfold asgSubs at pp
        rw [bind_bindS] at pp
        refine (tR_bindS hs hen pp).mono fun x H1 ⟨w1, da, st1, h1, x1, s1, e1, ra, pq1⟩ => ?_
        subst h1
        rw [bind_bindS] at pq1
        refine (tR_bindS s1 e1 pq1).mono fun y H2 ⟨w2, db, st2, h2, x2, s2, e2, rb, pq2⟩ => ?_
        subst h2
        cases q : setD da db d1 st2 with
        | none => rw [q] at pq2; exact (show False from pq2).elim
        | some s' =>
          rw [q] at pq2
          refine set_of s2 (ra.mono x2) rb (r1.mono (x1.trans x2)) q fun w3 x3 s3 => ?_
          have pq3 := PoS.ext x3 pq2
          dsimp only at pq3
          refine ⟨v2, [], rfl, ?_⟩
          unfold asgSubs at pq3
          rw [bind_bindS] at pq3
          refine (tR_bindS s3 (e2.mono x3) pq3).mono fun x' H4 ⟨w4, dc, st4, h4, x4, s4, e4, rc, pq4⟩ => ?_
          subst h4
          rw [bind_bindS] at pq4
          refine (tR_bindS s4 e4 pq4).mono fun y' H5 ⟨w5, dd, st5, h5, x5, s5, e5, rd, pq5⟩ => ?_
          subst h5
          cases q5 : setD dc dd d2 st5 with
          | none => rw [q5] at pq5; exact (show False from pq5).elim
          | some s6 =>
            rw [q5] at pq5
            refine set_of s5 (rc.mono x5) rd (r2.mono ((((x1.trans x2).trans x3).trans x4).trans x5)) q5 fun w6 x6 hs6 => ?_
            have pq6 := PoS.ext x6 pq5
            dsimp only at pq6
            unfold asgSubs at pq6
            exact ⟨rfl, pq6 w6 σ (Ext.refl w6) hs6 (e5.mono x6)⟩
    · rw [if_neg hn] at pp; exact pp.elim
  | _ => exact pp.elim
end
end MP
set_option linter.all false
set_option maxRecDepth 100000
set_option maxHeartbeats 1000000
/-! M13: pairs, loops; all statements. -/
namespace MP
open PySem PySem.Spec PyProof.Rows L2
section
variable {T : Tg'} {N : List Str} {nG : Nat} {ps : Nat → List Str} {c : Cfg} {sc : Scope} {hot : Ho} {k : Nat} {X : Cx} {W : WX} {w w' : Wd} {σ : L2.St}
theorem ss_aug {p p1 : Pos} {i : Nat} {e : E} (hi : okT N hot sc i = true) (he : SE T N c sc hot k e) : SS T N c sc hot k (.aug p p1 i e) := by
  intro x hx X W hX tk
  unfold S.py at hx
  cases hx
  obtain ⟨t1, t2, t3⟩ := hX.toXO.tgt hi
  refine (ps_aug (by rw [hX.xN]; exact hX.nd) t1 t2 (he X W hX.toXO tk) ip_add t3).imp fun D σ H ⟨w, env, st, e', hs, hen, p⟩ => ?_
  subst e'
  unfold ex at p
  cases q : env[i]?.join with
  | none => rw [q] at p; exact p.elim
  | some d =>
    rw [q] at p
    cases d with
    | int a =>
      dsimp only at p
      have q3 : env[i]? = some (some (.int a)) := by
        cases h : env[i]? with
        | none => rw [h] at q; cases q
        | some o => rw [h] at q; cases o with
          | none => cases q
          | some d' => cases q; rfl
      rcases hen.2 i _ q3 with ⟨kk, as, z⟩ | ⟨v, g1, g2⟩
      · cases z
      · cases g2
        refine ⟨_, g1, ?_⟩
        refine (tR_bindS hs hen p).mono fun y H1 ⟨w1, d1, st1, h1, x1, s1, e1, v1, p1⟩ => ?_
        subst h1
        cases v1 with
        | int b => exact ⟨a, b, rfl, rfl, p1 w1 _ (Ext.refl w1) s1 (e1.set (.int _))⟩
        | _ => exact p1.elim
    | _ => exact p.elim
theorem ss_par {p p1 : Pos} {kk : Nat} {px py : Pos} {i j : Nat} {p2 : Pos} {k2 : Nat} {a b : E} (hh : hot.h = false) (hi : okL N sc i = true) (hj : okL N sc j = true) (hij : i ≠ j) (hl : (py.line == px.line) = true)
    (h1 : (foldedForSure 8 (a.py T.nm N) && foldedForSure 8 (b.py T.nm N)) = false) (h2 : (constantsAlone 8 (a.py T.nm N) && constantsAlone 8 (b.py T.nm N)) = false)
    (ha : SE T N c sc hot k a) (hb : SE T N c sc hot k b) : SS T N c sc hot k (.par p p1 kk px py i j p2 k2 a b) := by
  intro x hx X W hX tk
  unfold S.py at hx
  cases hx
  obtain ⟨a1, a2⟩ := hX.toXO.loc hi
  obtain ⟨b1, b2⟩ := hX.toXO.loc hj
  have nd : X.N.Nodup := by rw [hX.xN]; exact hX.nd
  have hne : slotN N i ≠ slotN N j := fun z => by
    rw [z] at a1
    exact hij (nodup_ix nd a1 b1)
  refine ⟨fun pins s σ H D I h => ?_⟩
  refine (ps_par (hX.calm hh) nd a1 b1 hij a2 b2 (pa_cons (ha X W hX.toXO tk) (pa_cons (hb X W hX.toXO tk) pa_nil (py_starEach _ _ _)) (py_starEach _ _ _)) (sw_two I.ok.kind a2 b2 hl hne h1 h2) rfl).run pins s σ H D I ?_
  obtain ⟨w, env, st, e', hs, hen, p⟩ := h
  subst e'
  unfold ex at p
  show tR T (RVp T) W (ev c a) σ w.H _
  refine (tR_bindS hs hen p).mono fun x H1 ⟨w1, d1, st1, h1, x1, s1, e1, v1, p1⟩ => ?_
  subst h1
  show tR T (RVp T) W (ev c b) σ w1.H _
  refine (tR_bindS s1 e1 p1).mono fun y H2 ⟨w2, d2, st2, h2, x2, s2, e2, v2, p2⟩ => ?_
  subst h2
  exact ⟨x, y, rfl, p2 w2 _ (Ext.refl w2) s2 ((e2.set (v1.mono x2)).set v2)⟩
/-! ### loops -/
/-- behind a loop's turn -/
theorem pos_turn {D : Ends} {n : L2.St → Hp → Prop} {r : RS} {kk : En → St → RS} (p : PoS T w W D (match r with
    | .next e s => kk e s
    | .cont e s => kk e s
    | .brk e s => .next e s
    | r => r)) (h : ∀ e s w' σ', Ext w w' → RS' T.T w' s → RE T.T w' σ' e → PoS T w' W D (kk e s) → n σ' w'.H) : PoS T w W { D with nx := n, ct := n, bk := D.nx } r := by
  cases r with
  | next e s => exact fun w' σ' x hs he => h e s w' σ' x hs he (PoS.ext x p)
  | cont e s => exact fun w' σ' x hs he => h e s w' σ' x hs he (PoS.ext x p)
  | brk e s => exact p
  | ret d s => exact p
  | exc cc as e s => exact p
  | bad => exact p
theorem ss_while {p : Pos} {t : E} {b : Ss} (ht : ST T N c sc hot k t) (hb : SSs T N c sc hot k b) : SS T N c sc hot k (.while_ p t b) := by
  intro x hx X W hX tk
  unfold S.py at hx
  cases hx
  refine (ps_while hX.own (ht X W hX.toXO tk) (hb X W hX tk)).imp fun D σ H ⟨w, env, st, e', hs, hen, p⟩ => ?_
  subst e'
  unfold ex at p
  refine ⟨fun m σ H => ∃ w env st, w.H = H ∧ RS' T.T w st ∧ RE T.T w σ env ∧ PoS T w W D (whileN (fun e s => evT c t e s) (fun e s => exs c b e s) m env st), ⟨c.fuel, w, env, st, rfl, hs, hen, p⟩, ?_⟩
  rintro m σ H ⟨w, env, st, rfl, hs, hen, p⟩
  cases m with
  | zero => unfold whileN at p; exact p.elim
  | succ m =>
    unfold whileN at p
    refine (tR_bindS hs hen p).mono fun bb H1 ⟨w1, d1, st1, h1, x1, s1, e1, v1, p1⟩ => ?_
    subst h1 v1
    cases bb with
    | false =>
      rw [if_neg (by decide)] at p1 ⊢
      exact p1 w1 σ (Ext.refl w1) s1 e1
    | true =>
      rw [if_pos rfl] at p1 ⊢
      refine ⟨fun σ H => ∃ w env st, w.H = H ∧ RS' T.T w st ∧ RE T.T w σ env ∧ PoS T w W D (whileN (fun e s => evT c t e s) (fun e s => exs c b e s) m env st), fun σ' H' z => ⟨m, Nat.lt_succ_self m, z⟩, w1, env, st1, rfl, s1, e1, ?_⟩
      exact pos_turn p1 fun e s w' σ' x hs he p' => ⟨w', e, s, rfl, hs, he, p'⟩
def stepB (c : Cfg) (tg : Tg) (b : Ss) : MP.D → En → St → RS := fun x e s => match bindT tg x e with
  | some e' => exs c b e' s
  | none => .bad
theorem for_ev (p : Pos) (tg : Tg) (it : It) (b : Ss) (env : En) (st : St) : ex c (.for_ p tg it b) env st = (evI c it env st).bindS env fun wk s => match wk with
    | .items xs => forL (stepB c tg b) xs env s
    | .cell n => forR (stepB c tg b) n c.fuel 0 env s := by
  unfold ex
  rfl
theorem for_turn {tg : Tg} {b : Ss} {D : Ends} {env : En} {st : St} {d : MP.D} {x : V} {n : L2.St → Hp → Prop} {kk : En → St → RS} (hs : RS' T.T w st) (hen : RE T.T w σ env) (rx : RV T.T w x d) (p : PoS T w W D (match stepB c tg b d env st with
    | .next e s => kk e s
    | .cont e s => kk e s
    | .brk e s => .next e s
    | r => r)) (h : ∀ e s w' σ', Ext w w' → RS' T.T w' s → RE T.T w' σ' e → PoS T w' W D (kk e s) → n σ' w'.H) :
    tgR T tg x σ w.H fun σ2 H2 => sR T W (exs c b) { D with nx := n, ct := n, bk := D.nx } σ2 H2 := by
  unfold stepB at p
  cases q : bindT tg d env with
  | none => rw [q] at p; exact p.elim
  | some e =>
    rw [q] at p
    exact ⟨w, d, env, e, rfl, hen, rx, q, fun σ' h1 _ => ⟨w, e, st, rfl, hs, h1, pos_turn p h⟩⟩
theorem ss_for {p : Pos} {tg : Tg} {it : It} {b : Ss} (hh : hot.h = false) (htg : okTg N hot sc tg = true) (hit : SI T N c sc hot k it) (hb : SSs T N c sc hot k b) : SS T N c sc hot k (.for_ p tg it b) := by
  intro x hx X W hX tk
  unfold S.py at hx
  cases hx
  refine (ps_for hX.own (hX.calm hh) (hit X W hX.toXO tk _) (pg_tg hX.toXO htg) (hb X W hX tk) (fun x => it_fold it _ x)).imp fun D σ H ⟨w, env, st, e', hs, hen, p⟩ => ?_
  subst e'
  rw [for_ev] at p
  refine (tR_bindS hs hen p).mono fun J H1 ⟨w1, wk, st1, h1, x1, s1, e1, jok, p1⟩ => ?_
  subst h1
  cases wk with
  | items ds =>
    obtain ⟨j1, j2⟩ := jok
    refine ⟨fun i mm σ H => mm = ds.length - i ∧ i ≤ ds.length ∧ ∃ w' env stt, w'.H = H ∧ Ext w1 w' ∧ RS' T.T w' stt ∧ RE T.T w' σ env ∧ PoS T w' W D (forL (stepB c tg b) (ds.drop i) env stt), ⟨ds.length, rfl, Nat.zero_le _, w1, env, st1, rfl, Ext.refl w1, s1, e1, p1⟩, ?_⟩
    rintro i mm σ H ⟨rfl, hi, w', env, stt, rfl, y1, y2, y3, y4⟩
    obtain ⟨k1, k2⟩ := j2 i w' y1
    by_cases hlt : i < ds.length
    · have hd : ds[i]? = some ds[i] := List.getElem?_eq_getElem hlt
      obtain ⟨g1, g2⟩ := k2 _ hd
      rw [List.drop_eq_getElem_cons hlt] at y4
      refine .inr ⟨g1, fun σ' H' => i + 1 ≤ ds.length ∧ ∃ w' env stt, w'.H = H' ∧ Ext w1 w' ∧ RS' T.T w' stt ∧ RE T.T w' σ' env ∧ PoS T w' W D (forL (stepB c tg b) (ds.drop (i + 1)) env stt), fun σ' H' z => ⟨ds.length - (i + 1), by omega, rfl, z⟩, fun x H' yl => ?_⟩
      obtain ⟨rfl, rx⟩ := g2 x H' yl
      unfold forL at y4
      refine for_turn (kk := fun e s => forL (stepB c tg b) (ds.drop (i + 1)) e s) y2 y3 rx ?_ fun e s w2 σ2 z1 z2 z3 z4 => ⟨hlt, w2, e, s, rfl, y1.trans z1, z2, z3, z4⟩
      cases q : stepB c tg b ds[i] env stt <;> rw [q] at y4 <;> exact y4
    · refine .inl ⟨k1 (by omega), ?_⟩
      rw [List.drop_eq_nil_of_le (by omega)] at y4
      unfold forL at y4
      exact y4 w' σ (Ext.refl w') y2 y3
  | cell n =>
    obtain ⟨j1, j2⟩ := jok
    refine ⟨fun i mm σ H => mm ≤ c.fuel ∧ i = c.fuel - mm ∧ ∃ w' env stt, w'.H = H ∧ Ext w1 w' ∧ RS' T.T w' stt ∧ RE T.T w' σ env ∧ PoS T w' W D (forR (stepB c tg b) n mm i env stt), ⟨c.fuel, Nat.le_refl _, by omega, w1, env, st1, rfl, Ext.refl w1, s1, e1, p1⟩, ?_⟩
    rintro i mm σ H ⟨hm, hi, w', env, stt, rfl, y1, y2, y3, y4⟩
    cases mm with
    | zero => unfold forR at y4; exact y4.elim
    | succ mm =>
      unfold forR at y4
      cases hst : stt[n]? with
      | none => rw [hst] at y4; exact y4.elim
      | some o =>
        rw [hst] at y4
        cases o with
        | lst xs =>
          dsimp only at y4
          obtain ⟨k1, k2⟩ := j2 i w' stt xs y1.toExt0 y2 hst
          cases hd : xs[i]? with
          | none =>
            rw [hd] at y4
            exact .inl ⟨k1 (List.getElem?_eq_none_iff.mp hd), y4 w' σ (Ext.refl w') y2 y3⟩
          | some d =>
            rw [hd] at y4
            dsimp only at y4
            obtain ⟨g1, g2⟩ := k2 _ hd
            refine .inr ⟨g1, fun σ' H' => ∃ w' env stt, w'.H = H' ∧ Ext w1 w' ∧ RS' T.T w' stt ∧ RE T.T w' σ' env ∧ PoS T w' W D (forR (stepB c tg b) n mm (i + 1) env stt), fun σ' H' z => ⟨mm, by omega, by omega, by omega, z⟩, fun x H' yl => ?_⟩
            obtain ⟨rfl, rx⟩ := g2 x H' yl
            refine for_turn (kk := fun e s => forR (stepB c tg b) n mm (i + 1) e s) y2 y3 rx ?_ fun e s w2 σ2 z1 z2 z3 z4 => ⟨w2, e, s, rfl, y1.trans z1, z2, z3, z4⟩
            cases q : stepB c tg b d env stt <;> rw [q] at y4 <;> exact y4
        | _ => exact y4.elim
/-! ### all statements -/
mutual
def okS (nm : Nm) (nG : Nat) (N : List Str) (hot : Ho) (sc : Scope) : S → Bool
  | .asg _ g e => okE nm nG N hot sc e && okG' nm nG N hot sc e g
  | .par _ _ _ px py i j _ _ a b => !hot.h && okL N sc i && okL N sc j && decide (i ≠ j) && (py.line == px.line) && !(foldedForSure 8 (a.py nm N) && foldedForSure 8 (b.py nm N)) && !(constantsAlone 8 (a.py nm N) && constantsAlone 8 (b.py nm N)) &&
    okE nm nG N hot sc a && okE nm nG N hot sc b
  | .aug _ _ i e => okT N hot sc i && okE nm nG N hot sc e
  | .expr _ e => okE nm nG N hot sc e && !isComp e
  | .ret _ e => okE nm nG N hot sc e
  | .retN _ => true
  | .if_ _ t a b => okE nm nG N hot sc t && tOk t && okSs nm nG N hot sc a && okSs nm nG N hot sc b
  | .for_ _ tg it b => !hot.h && okTg N hot sc tg && okI nm nG N hot sc it && okSs nm nG N hot sc b
  | .while_ _ t b => okE nm nG N hot sc t && tOk t && okSs nm nG N hot sc b
  | .raise .. => true
  | .pass _ => true
  | .brk _ => true
  | .cont _ => true
  | .try_ .. => false
  | .frz _ => true
def okSs (nm : Nm) (nG : Nat) (N : List Str) (hot : Ho) (sc : Scope) : Ss → Bool
  | .nil => true
  | .cons s ss => okS nm nG N hot sc s && okSs nm nG N hot sc ss
end
theorem ss_asg (Tk : TxOk T nG ps) (Lk : ClOk T) (Fk : CfOk T c) (Ck : CallOk T ps c k) {p : Pos} {g : G} {e : E} (h1 : okE T.nm nG N hot sc e = true) (h2 : okG' T.nm nG N hot sc e g = true) : SS T N c sc hot (k + 1) (.asg p g e) := by
  have sE' := fun (e : E) (h : okE T.nm nG N hot sc e = true) => sE (k := k) Tk Lk Fk Ck hot sc e h
  cases g with
  | name q i =>
    unfold okG' at h2
    rw [Bool.and_eq_true] at h2
    by_cases hc : isComp e = true
    · cases e with
      | comp p' m cs own elt tg it ifs => exact ss_nameC h2.1 (sC Tk Lk Fk Ck hot sc p' m cs own elt tg it ifs h1)
      | frz e =>
        have z := h2.2
        unfold isComp at hc
        simp [hc] at z
      | _ => unfold isComp at hc; cases hc
    · exact ss_name h2.1 (by simpa using hc) (sE' e h1)
  | tup q kk ns => exact ss_tup h2 (sE' e h1)
  | sub q o i =>
    unfold okG' at h2
    rw [Bool.and_eq_true] at h2
    exact ss_sub (sE' o h2.1) (sE' i h2.2) (sE' e h1)
  | attr q o f =>
    unfold okG' at h2
    exact ss_attr Tk Lk Fk (sE' o h2) (sE' e h1)
  | subs q kk gs =>
    unfold okG' at h2
    rw [Bool.and_eq_true, Bool.not_eq_true'] at h2
    obtain ⟨hh, h2⟩ := h2
    split at h2
    · simp only [Bool.and_eq_true] at h2
      exact ss_subs hh (sE' _ h2.1.1.1) (sE' _ h2.1.1.2) (sE' _ h2.1.2) (sE' _ h2.2) (sE' e h1)
    · cases h2
section
variable (Tk : TxOk T nG ps) (Lk : ClOk T) (Fk : CfOk T c) (Ck : CallOk T ps c k) (hx : ∀ cl, c.exf cl = none)
include Tk Lk Fk Ck hx
mutual
theorem sS : ∀ (s : S), okS T.nm nG N hot sc s = true → SS T N c sc hot (k + 1) s
  | .asg p g e, h => by
    unfold okS at h; rw [Bool.and_eq_true] at h
    exact ss_asg Tk Lk Fk Ck h.1 h.2
  | .par p p1 kk px py i j p2 k2 a b, h => by
    unfold okS at h
    simp only [Bool.and_eq_true, Bool.not_eq_true', decide_eq_true_eq] at h
    obtain ⟨⟨⟨⟨⟨⟨⟨⟨a1, a2⟩, a3⟩, a4⟩, a5⟩, a6⟩, a7⟩, a8⟩, a9⟩ := h
    exact ss_par a1 a2 a3 a4 a5 a6 a7 (sE Tk Lk Fk Ck hot sc a a8) (sE Tk Lk Fk Ck hot sc b a9)
  | .aug p p1 i e, h => by
    unfold okS at h; rw [Bool.and_eq_true] at h
    exact ss_aug h.1 (sE Tk Lk Fk Ck hot sc e h.2)
  | .expr p e, h => by
    unfold okS at h; rw [Bool.and_eq_true, Bool.not_eq_true'] at h
    exact ss_expr h.2 (sE Tk Lk Fk Ck hot sc e h.1)
  | .ret p e, h => by
    unfold okS at h
    exact ss_ret (sE Tk Lk Fk Ck hot sc e h)
  | .retN p, h => ss_retN
  | .if_ p t a b, h => by
    unfold okS at h
    simp only [Bool.and_eq_true] at h
    obtain ⟨⟨⟨h1, h2⟩, h3⟩, h4⟩ := h
    exact ss_if (sT Tk Lk Fk Ck hot sc t h1 h2) (sSs a h3) (sSs b h4)
  | .for_ p tg it b, h => by
    unfold okS at h
    simp only [Bool.and_eq_true, Bool.not_eq_true'] at h
    obtain ⟨⟨⟨h1, h2⟩, h3⟩, h4⟩ := h
    exact ss_for h1 h2 (sI Tk Lk Fk Ck hot sc it h3) (sSs b h4)
  | .while_ p t b, h => by
    unfold okS at h
    simp only [Bool.and_eq_true] at h
    obtain ⟨⟨h1, h2⟩, h3⟩ := h
    exact ss_while (sT Tk Lk Fk Ck hot sc t h1 h2) (sSs b h3)
  | .raise p p2 q cl es, h => ss_raise0 (hx cl)
  | .pass p, h => ss_pass
  | .brk p, h => ss_brk
  | .cont p, h => ss_cont
  | .try_ p b hs, h => by unfold okS at h; cases h
  | .frz i, h => fun x e => by unfold S.py at e; cases e
theorem sSs : ∀ (ss : Ss), okSs T.nm nG N hot sc ss = true → SSs T N c sc hot (k + 1) ss
  | .nil, h => sss_nil
  | .cons s ss, h => by
    unfold okSs at h; rw [Bool.and_eq_true] at h
    exact sss_cons (sS s h.1) (sSs ss h.2) fun z => by
      cases s <;> first | exact ⟨_, rfl⟩ | (unfold S.py at z; cases z)
end
end
end
end MP
set_option linter.all false
set_option maxRecDepth 100000
set_option maxHeartbeats 1000000
/-! M14: defs mean what the interpreter says. -/
namespace MP
open PySem PySem.Spec PyProof.Rows L2
/-- what is known of a def -/
structure FnK (T : Tg') (nG : Nat) (ps : Nat → List Str) (f : Nat) (F : Fn) : Prop where
  ex : ∃ (name qual : Str) (params : Arguments) (scope : Scope) (dvs : List V) (kws : List (Str × V)) (N : List Str), FunD T.T.K name qual params (F.body.py T.nm N) scope dvs kws (T.T.fa f) (T.T.fd f) ∧ FnScope N (ps f) scope ∧ N.length = F.ns ∧
    okSs T.nm nG N ⟨false, fun _ => true⟩ scope F.body = true
section
variable {T : Tg'} {nG : Nat} {ps : Nat → List Str} {chk : St → St → Bool} {fuel : Nat}
theorem re_start {w : Wd} {N : List Str} {F : Fn} : ∀ {vs : List V} {ds : List MP.D}, RVs T.T w vs ds → vs.length = F.np → N.length = F.ns → RE T.T w (L2.start N vs) (ds.map some ++ List.replicate (F.ns - F.np) none) := by
  intro vs ds rv hl hN
  have hl2 := rv.length
  unfold L2.start
  refine ⟨by simp [hl2, hN, hl]; omega, fun i d e => ?_⟩
  by_cases hi : i < ds.length
  · rw [List.getElem?_append_left (by simpa using hi), List.getElem?_map] at e
    cases q : ds[i]? with
    | none => rw [q] at e; cases e
    | some d' =>
      rw [q] at e
      cases e
      obtain ⟨v, h1, h2⟩ := rv.get q
      refine .inr ⟨v, ?_, h2⟩
      rw [List.getElem?_append_left (by simp; omega), List.getElem?_map, h1]; rfl
  · rw [List.getElem?_append_right (by simpa using hi)] at e
    rw [List.getElem?_replicate] at e
    split at e <;> cases e
/-- an end, by what a pure def leaves -/
theorem fin_po {w w' : Wd} {W : WX} {σ : L2.St} {Q : VK} {pure : Bool} {d : MP.D} {st s : St} {v : V} (hchk : ∀ a b, chk a b = true → a = b) (h0 : RS' T.T w st) (x : Ext w w') (h : RS' T.T w' s) (r : RV T.T w' v d) (p : Po T (RVp T) w W σ Q (fin chk pure d st s)) : Q v w'.H := by
  unfold fin at p
  cases pure with
  | false =>
    rw [if_neg (by decide)] at p
    exact p w' v x h r
  | true =>
    rw [if_pos rfl] at p
    by_cases hc : (chk (s.take st.length) st && nr d) = true
    · rw [if_pos hc] at p
      rw [Bool.and_eq_true] at hc
      obtain ⟨a1, a2⟩ := RS'.cut x h0 h (hchk _ _ hc.1)
      exact p (w'.less w.n) v a2 a1 (r.less (nr_refB _ hc.2))
    · rw [if_neg hc] at p; exact p.elim
theorem call_ok (O : TxOk T nG ps) (L : ClOk T) (hx : ∀ cl, T.P.exf cl = none) (hchk : ∀ a b, chk a b = true → a = b) (hf : ∀ f F, T.P.fns[f]? = some F → FnK T nG ps f F) :
    ∀ d, CallOk T ps (cfgOf T.P fuel (callF T.P chk fuel d)) (2 * d)
  | 0 => ⟨fun f _ as st => rfl, fun f F hF => ⟨fun _ _ => .bad, fun as st => by
      show Res.bad = _
      cases filled F as <;> rfl, ⟨fun vs H Q E ⟨w, ds, st, _, _, _, hl, _⟩ => by rw [hl, O.len f F hF], fun A outer s H args us vs Q E hr e0 hb r ⟨w, ds, st, _, _, _, _, p⟩ => p.elim⟩⟩⟩
  | d + 1 => by
    have ih := call_ok O L hx hchk hf d
    have Fk : CfOk T (cfgOf T.P fuel (callF T.P chk fuel d)) := ⟨rfl, rfl, rfl, rfl, rfl, rfl, rfl, rfl, rfl⟩
    refine ⟨fun f h as st => ?_, fun f F hF => ⟨fun as st => runF T.P chk fuel F (callF T.P chk fuel d) as st, fun as st => ?_, ?_⟩⟩
    · show callF T.P chk fuel (d + 1) f as st = _
      unfold callF
      rw [h]
    · show callF T.P chk fuel (d + 1) f as st = _
      conv => lhs; unfold callF
      rw [hF]
      all_goals (try dsimp only)
      all_goals (cases q : filled F as <;> rfl)
    · obtain ⟨name, qual, params, scope, dvs, kws, N, FD, S, hN, hok⟩ := (hf f F hF).ex
      have hlen := O.len f F hF
      refine FunD.ok (k := 2 * d + 1) FD S (fun vs H Q E ⟨w, ds, st, _, _, _, hl, _⟩ => by rw [hl, hlen]) fun cdv A outer s H vs Q E hr ⟨w, ds, st, e, hs, rv, hl, p⟩ => ?_
      subst e
      have own : PassesOwn (model (cxOf (L2N.CX T.T.prog T.T.w) T.T.prog T.T.w T.T.K T.T.mg T.T.base N qual scope (T.T.fa f) cdv A outer s w.H E).prog (cxOf (L2N.CX T.T.prog T.T.w) T.T.prog T.T.w T.T.K T.T.mg T.T.base N qual scope (T.T.fa f) cdv A outer s w.H E).w) (cxOf (L2N.CX T.T.prog T.T.w) T.T.prog T.T.w T.T.K T.T.mg T.T.base N qual scope (T.T.fa f) cdv A outer s w.H E).A (cxOf (L2N.CX T.T.prog T.T.w) T.T.prog T.T.w T.T.K T.T.mg T.T.base N qual scope (T.T.fa f) cdv A outer s w.H E).env (cxOf (L2N.CX T.T.prog T.T.w) T.T.prog T.T.w T.T.K T.T.mg T.T.base N qual scope (T.T.fa f) cdv A outer s w.H E).xe :=
        passes_of (X := cxOf (L2N.CX T.T.prog T.T.w) T.T.prog T.T.w T.T.K T.T.mg T.T.base N qual scope (T.T.fa f) cdv A outer s w.H E) rfl
      have tk : L2N.Takes (cxOf (L2N.CX T.T.prog T.T.w) T.T.prog T.T.w T.T.K T.T.mg T.T.base N qual scope (T.T.fa f) cdv A outer s w.H E) (fun cls d _ H' => E cls d H') :=
        L2N.takes_of rfl rfl rfl rfl
      have hX : XS T N scope ⟨false, fun _ => true⟩ (2 * d + 1) (cxOf (L2N.CX T.T.prog T.T.w) T.T.prog T.T.w T.T.K T.T.mg T.T.base N qual scope (T.T.fa f) cdv A outer s w.H E) :=
        ⟨⟨rfl, rfl, rfl, rfl, rfl, rfl, rfl, S.nd, fun _ => rfl, fun _ => hr, by have := hr.un; show (A.deeper _).units + 100 < cLine; omega, rfl⟩, own⟩
      refine ⟨sR T (fun cls d _ H' => E cls d H') (exs (cfgOf T.P fuel (callF T.P chk fuel d)) F.body), sSs (hot := ⟨false, fun _ => true⟩) O L Fk ih (fun cl => hx cl) F.body hok _ _ hX tk, w, ds.map some ++ List.replicate (F.ns - F.np) none, st, rfl, hs, re_start rv hl hN, ?_⟩
      unfold runF at p
      dsimp only at p
      cases q : exs (cfgOf T.P fuel (callF T.P chk fuel d)) F.body (ds.map some ++ List.replicate (F.ns - F.np) none) st with
      | next env s =>
        rw [q] at p
        exact fun w' σ' x hs' he => fin_po hchk hs x hs' .non p
      | ret dd s =>
        rw [q] at p
        exact fun w' v x hs' r => fin_po hchk hs x hs' r p
      | exc cc as env s =>
        rw [q] at p
        dsimp only at p
        intro w' σ' dd fs x hs' he hd xr
        cases hp : F.pure with
        | false =>
          rw [hp, if_neg (by decide)] at p
          exact p w' dd fs x hs' hd xr
        | true =>
          rw [hp, if_pos rfl] at p
          by_cases hc : (chk (s.take st.length) st && nrs as) = true
          · rw [if_pos hc] at p
            rw [Bool.and_eq_true] at hc
            obtain ⟨a1, a2⟩ := RS'.cut x hs hs' (hchk _ _ hc.1)
            obtain ⟨vs2, g1, g2⟩ := xr
            exact p (w'.less w.n) dd fs a2 a1 hd ⟨vs2, g1.less (nrs_refB _ hc.2), g2⟩
          · rw [if_neg hc] at p; exact p.elim
      | brk env s => rw [q] at p; exact p.elim
      | cont env s => rw [q] at p; exact p.elim
      | bad => rw [q] at p; exact p.elim
end
end MP
set_option linter.all false
set_option maxRecDepth 100000
set_option maxHeartbeats 1000000
/-! M15: a program's facts, as the head tells them. -/
namespace MP
open PySem PySem.Spec PyProof.Rows L2
/-! ### names of fields, no two the same -/
def fldOf (L : List Str) (i : Nat) : Str := match L[i]? with
  | some x => x
  | none => ⟨Array.replicate (i + 1) 126⟩
theorem fldOf_inj {L : List Str} (h : (decide L.Nodup && L.all fun x => x.cps.toList.all (· != 126)) = true) (f g : Nat) (e : fldOf L f = fldOf L g) : f = g := by
  rw [Bool.and_eq_true, decide_eq_true_eq] at h
  obtain ⟨nd, ha⟩ := h
  have mix : ∀ (i j : Nat) (x : Str), L[i]? = some x → (⟨Array.replicate (j + 1) 126⟩ : Str) ≠ x := fun i j x hx z => by
    have h1 := List.all_eq_true.mp ha x (List.mem_of_getElem? hx)
    rw [← z] at h1
    have h2 := List.all_eq_true.mp h1 126 (by simp)
    simp at h2
  unfold fldOf at e
  cases hf : L[f]? with
  | some x =>
    rw [hf] at e
    cases hg : L[g]? with
    | some y =>
      rw [hg] at e
      dsimp only at e
      subst e
      exact nodup_ix nd hf hg
    | none =>
      rw [hg] at e
      exact absurd e.symm (mix f g x hf)
  | none =>
    rw [hf] at e
    cases hg : L[g]? with
    | some y =>
      rw [hg] at e
      exact absurd e (mix g f y hg)
    | none =>
      rw [hg] at e
      dsimp only at e
      have h1 := congrArg (fun s : Str => s.cps.size) e
      simp at h1
      exact h1
/-! ### values of the text -/
mutual
def datB (K : PySem.W.Frag) : D → Value → Bool
  | .non, .none => true
  | .bl b, .bool c => b == c
  | .int i, .int j _ => decide (i = j)
  | .str x, .str y _ => decide (x = y) && decide (strOk x)
  | .tup xs, .ref a => (match K.lookup a with
    | some ⟨.type c, _, .seq its _, _⟩ => decide (c = "tuple") && decide (its.size ≤ sizeLine) && decide (xs.length ≤ lim) && datsB K xs its.toList
    | _ => false)
  | _, _ => false
def datsB (K : PySem.W.Frag) : List D → List Value → Bool
  | [], [] => true
  | x :: xs, v :: vs => datB K x v && datsB K xs vs
  | _, _ => false
end
mutual
theorem datB_ok {T : Tx} : ∀ (d : D) (v : Value), datB T.K d v = true → ∃ u, RelV u v ∧ ∀ w, RV T w u d
  | .non, v, h => by
    cases v with
    | none => exact ⟨.non, rfl, fun _ => .non⟩
    | _ => simp [datB] at h
  | .bl b, v, h => by
    cases v with
    | bool c =>
      simp [datB] at h
      subst h
      exact ⟨.bl b, rfl, fun _ => .bl b⟩
    | _ => simp [datB] at h
  | .int i, v, h => by
    cases v with
    | int j t =>
      simp [datB] at h
      subst h
      exact ⟨.int i, ⟨t, rfl⟩, fun _ => .int i⟩
    | _ => simp [datB] at h
  | .str x, v, h => by
    cases v with
    | str y t =>
      simp [datB] at h
      obtain ⟨h1, h2⟩ := h
      subst h1
      exact ⟨.str x, ⟨t, rfl⟩, fun _ => .str h2⟩
    | _ => simp [datB] at h
  | .tup xs, v, h => by
    cases v with
    | ref a =>
      unfold datB at h
      cases q : T.K.lookup a with
      | none => rw [q] at h; cases h
      | some o =>
        obtain ⟨oc, od, dt, osl⟩ := o
        rw [q] at h
        cases oc with
        | type c =>
          cases dt with
          | seq its n =>
            dsimp only at h
            simp only [Bool.and_eq_true, decide_eq_true_eq] at h
            obtain ⟨⟨⟨h1, h2⟩, h3⟩, h4⟩ := h
            obtain ⟨us, r1, r2⟩ := datsB_ok xs its.toList h4
            have sq : ∀ H, SqT T.K H a us := fun H => .inr ⟨_, its, n, q, congrArg Value.type h1, rfl, h2, r1⟩
            exact ⟨.ref a, rfl, fun w => .tup ⟨sq _, .inr sq⟩ h3 (r2 w)⟩
          | _ => cases h
        | _ => cases dt <;> cases h
    | _ => simp [datB] at h
  | .lst _, v, h => by cases v <;> simp [datB] at h
  | .obj _ _, v, h => by cases v <;> simp [datB] at h
  | .ref _, v, h => by cases v <;> simp [datB] at h
  | .exc _ _, v, h => by cases v <;> simp [datB] at h
theorem datsB_ok {T : Tx} : ∀ (ds : List D) (vs : List Value), datsB T.K ds vs = true → ∃ us, Vals us vs ∧ ∀ w, RVs T w us ds
  | [], [], _ => ⟨[], .nil, fun _ => .nil⟩
  | [], _ :: _, h => by simp [datsB] at h
  | _ :: _, [], h => by simp [datsB] at h
  | d :: ds, v :: vs, h => by
    unfold datsB at h
    rw [Bool.and_eq_true] at h
    obtain ⟨u, a1, a2⟩ := datB_ok d v h.1
    obtain ⟨us, b1, b2⟩ := datsB_ok ds vs h.2
    exact ⟨u :: us, .cons a1 b1, fun w => .cons (a2 w) (b2 w)⟩
end
end MP
set_option linter.all false
set_option maxRecDepth 100000
set_option maxHeartbeats 1000000
/-! M16: a program as a datum; what the head must tell of it. -/
namespace MP
open PySem PySem.Spec PyProof.Rows L2
structure Pk where
  fns : List Fn
  ns : List (List Str)
  ps : List (List Str)
  ats : List (Str × Option Str)
  nG : Nat
  fnL : List Str
  clL : List Str
  glL : List Str
  glD : List D
  fldL : List Str
  mtL : List (Nat × Nat × Nat)
  inL : List (Nat × Nat)
  frL : List Nat
  fdL : List (Nat × Nat)
  nC : Nat
namespace Pk
def at' (k : Pk) (f : Nat) : Str × Option Str := k.ats.getD f (Str.empty, none)
def nsF (k : Pk) (f : Nat) : List Str := k.ns.getD f []
def psF (k : Pk) (f : Nat) : List Str := k.ps.getD f []
def nm (k : Pk) : Nm := ⟨fun f => k.fnL.getD f Str.empty, fun c => k.clL.getD c Str.empty, fun g => k.glL.getD g Str.empty, fldOf k.fldL, k.nC, k.glL.length⟩
def pg (k : Pk) : Pg := ⟨k.fns, fun g => k.glD[g]?, fun c f => (k.mtL.find? fun t => t.1 == c && t.2.1 == f).map (·.2.2), fun _ _ => none, fun c => k.inL.lookup c, fun c => k.frL.contains c, fun _ => none, fun _ _ => none, fun _ _ => false, fun c f => k.fdL.contains (c, f)⟩
/-- facts by names -/
def fa (k : Pk) : List He.Fa := builtinNames.map .free ++ ((k.fnL.take k.nG).map .glo ++ (k.inL.map (fun p => .glo (k.nm.cl p.1)) ++ (k.inL.map (fun p => .cls (k.nm.cl p.1)) ++ (k.inL.map (fun p => .mkr (k.nm.cl p.1)) ++
  (k.mtL.map (fun t => .meth (k.nm.cl t.1) (k.nm.fld t.2.1)) ++ (k.mtL.map (fun t => .cls (k.nm.cl t.1)) ++ (k.fdL.map (fun t => .noat (k.nm.cl t.1) (k.nm.fld t.2)) ++ k.fdL.map (fun t => .cls (k.nm.cl t.1)))))))))
/-- further facts -/
def ex (k : Pk) (K : PySem.W.Frag) : Bool := (K.all fun p => match p.2.cls with
    | .type c => c != "list"
    | _ => true) && (match PySem.W.nsIn K mainGlobals "gcd" with
    | some (some (.builtin c)) => c == "math.gcd"
    | _ => false) && ((k.glL.zip k.glD).all fun p => match PySem.W.nsIn K mainGlobals p.1 with
    | some (some v) => datB K p.2 v
    | _ => false)
/-- what is checked without the head -/
def okB (k : Pk) : Bool := (List.range k.nG).all (fun f => decide (k.ats[f]? = some (k.fnL.getD f Str.empty, none)) && decide (f < k.fnL.length)) && (k.mtL.all fun t => decide (k.ats[t.2.2]? = some (k.nm.cl t.1, some (k.nm.fld t.2.1)))) &&
  (k.inL.all fun t => decide (k.ats[t.2]? = some (k.nm.cl t.1, some ("__init__" : Str)))) && (decide k.fldL.Nodup && k.fldL.all fun x => x.cps.toList.all (· != 126)) && decide (k.glL.length = k.glD.length) && decide (k.nG ≤ k.fns.length) && (List.range k.nC).all (fun c => (k.inL.lookup c).isSome)
end Pk
theorem mem_lk : ∀ {l : List (Nat × Nat)} {c f : Nat}, l.lookup c = some f → (c, f) ∈ l
  | [], _, _, h => by cases h
  | (a, b) :: l, c, f, h => by
    rw [List.lookup_cons] at h
    by_cases e : c = a
    · subst e
      rw [beq_self_eq_true] at h
      cases h
      exact List.mem_cons_self
    · have e2 : (c == a) = false := by simpa using e
      rw [e2] at h
      exact List.mem_cons_of_mem _ (mem_lk h)
/-- one def of the program -/
structure DOk (k : Pk) (f : Nat) (F : Fn) (d : He.DefD) : Prop where
  at_ : k.ats[f]? = some d.at_
  body : d.body = F.body.py k.nm (k.nsF f)
  sc : FnScope (k.nsF f) (k.psF f) d.scope
  len1 : (k.nsF f).length = F.ns
  len2 : (k.psF f).length = F.np
  ok : okSs k.nm k.nG (k.nsF f) ⟨false, fun _ => true⟩ d.scope F.body = true
  bind : ∀ (K : PySem.W.Frag) (a : Addr) (fd : FuncData), FunD K d.name d.qual d.params d.body d.scope (d.dvs K) (d.kws K) a fd → ∀ m ≤ F.dfl.length, ∃ dvs ds, Binds K fd (k.psF f) ds ∧ Vals dvs ds ∧ ∀ (T : Tx) w, RVs T w dvs (F.dfl.drop (F.dfl.length - m))
theorem bind_none {F : Fn} {K : PySem.W.Frag} {fd : FuncData} {ps : List Str} (h : F.dfl = []) (b : Binds K fd ps []) : ∀ m ≤ F.dfl.length, ∃ dvs ds, Binds K fd ps ds ∧ Vals dvs ds ∧ ∀ (T : Tx) w, RVs T w dvs (F.dfl.drop (F.dfl.length - m)) :=
  fun m _ => ⟨[], [], b, .nil, fun T w => by rw [h, List.drop_nil]; exact .nil⟩
theorem bind_one {F : Fn} {K : PySem.W.Frag} {fd : FuncData} {ps : List Str} {v : V} {d : D} (h : F.dfl = [d]) (b : Binds K fd ps []) (b1 : ∃ ds, Vals [v] ds ∧ Binds K fd ps ds) (r : ∀ (T : Tx) w, RV T w v d) :
    ∀ m ≤ F.dfl.length, ∃ dvs ds, Binds K fd ps ds ∧ Vals dvs ds ∧ ∀ (T : Tx) w, RVs T w dvs (F.dfl.drop (F.dfl.length - m)) := by
  intro m hm
  rw [h] at hm ⊢
  match m, hm with
  | 0, _ => exact ⟨[], [], b, .nil, fun T w => .nil⟩
  | 1, _ =>
    obtain ⟨ds, r1, r2⟩ := b1
    exact ⟨[v], ds, r2, r1, fun T w => .cons (r T w) .nil⟩
def fdOf (K : PySem.W.Frag) (a : Addr) : FuncData := match K.lookup a with
  | some ⟨_, _, .func fd, _⟩ => fd
  | _ => default
theorem fdOf_eq {K : PySem.W.Frag} {n q : Str} {pa : Arguments} {b : List Stmt} {sc : Scope} {dvs : List V} {kws : List (Str × V)} {a : Addr} {fd : FuncData} (F : FunD K n q pa b sc dvs kws a fd) : fdOf K a = fd := by
  obtain ⟨oc, od, dV, kV, doc, pm, an, cdv, ct, osl, e, lk, _⟩ := F.ex
  unfold fdOf
  rw [lk]
section
variable {k : Pk} {defs : List He.DefD} {K : PySem.W.Frag} {h : Heap} {mg : Str → Option Value}
def txOf (k : Pk) (K : PySem.W.Frag) (mg : Str → Option Value) (prog : Program) (w : World) (base : Heap) : Tg' :=
  ⟨⟨prog, w, K, mg, base, fun f => He.fAd K (k.at' f), fun f => fdOf K (He.fAd K (k.at' f)), fun c => He.ga K (k.nm.cl c), k.nm.fld⟩, k.nm, k.pg, fun _ => []⟩
theorem says_fn (c : He.SaysD k.fa defs K) (hD : ∀ f F, k.fns[f]? = some F → ∃ d ∈ defs, DOk k f F d) {f : Nat} {F : Fn} (hf : k.fns[f]? = some F) :
    ∃ d, DOk k f F d ∧ FunD K d.name d.qual d.params d.body d.scope (d.dvs K) (d.kws K) (He.fAd K (k.at' f)) (fdOf K (He.fAd K (k.at' f))) := by
  obtain ⟨d, hd, D⟩ := hD f F hf
  obtain ⟨fd, FD⟩ := He.SaysD.defs c hd
  have e : k.at' f = d.at_ := by
    unfold Pk.at'
    rw [List.getD_eq_getElem?_getD, D.at_]; rfl
  rw [← e] at FD
  exact ⟨d, D, by rw [fdOf_eq FD]; exact FD⟩
theorem tx_ok (hk : k.okB = true) (X : K.In h) (G : h.Ns mainGlobals mg) (c : He.SaysD k.fa defs K) (e : k.ex K = true) (hD : ∀ f F, k.fns[f]? = some F → ∃ d ∈ defs, DOk k f F d) (prog : Program) (w : World) (base : Heap) :
    TxOk (txOf k K mg prog w base) k.nG k.psF := by
  unfold Pk.okB at hk
  simp only [Bool.and_eq_true, decide_eq_true_eq] at hk
  obtain ⟨⟨⟨⟨⟨⟨k1, k2⟩, k3⟩, k4⟩, k5⟩, k6⟩, k7⟩ := hk
  unfold Pk.ex at e
  simp only [Bool.and_eq_true] at e
  obtain ⟨⟨e1, e2⟩, e3⟩ := e
  have inj : ∀ c f, k.inL.lookup c = some f → (c, f) ∈ k.inL := fun c f q => mem_lk q
  refine { free := fun x hx => ?_, gcd := ?_, glob := fun g d hg => ?_, fnG := fun f hf => ?_, keep := fun f F hf => ?_, len := fun f F hf => ?_, glbS := fun g hg => ?_, fnS := fun f hf => ?_, iniS := fun cl hc => ?_, bind := fun f F hf m hm => ?_, fldN := rfl, cls := fun cl f q => ?_, clsC := fun cl q => ?_, meth := fun cl f g q => ?_ }
  · exact He.free_ok X G (c.facts (f := .free x) (by unfold Pk.fa; exact List.mem_append_left _ (List.mem_map_of_mem hx)))
  · show mg "gcd" = _
    split at e2
    · rename_i cc q
      have z : cc = "math.gcd" := by simpa using e2
      rw [z] at q
      exact PySem.W.mg_of X G q
    · cases e2
  · have hg' : k.glD[g]? = some d := hg
    have hl : g < k.glL.length := by rw [k5]; exact (List.getElem?_eq_some_iff.mp hg').1
    have hm : (k.glL[g], d) ∈ k.glL.zip k.glD := by
      refine List.mem_of_getElem? (i := g) ?_
      rw [List.getElem?_zip_eq_some]
      exact ⟨List.getElem?_eq_getElem hl, hg'⟩
    have z := List.all_eq_true.mp e3 _ hm
    dsimp only at z
    split at z
    · rename_i v q
      obtain ⟨u, a1, a2⟩ := datB_ok (T := (txOf k K mg prog w base).T) d v z
      refine ⟨v, u, ?_, a1, a2⟩
      have en : k.nm.gl g = k.glL[g] := by
        show k.glL.getD g Str.empty = _
        rw [List.getD_eq_getElem?_getD, List.getElem?_eq_getElem hl]; rfl
      show mg (k.nm.gl g) = _
      rw [en]
      exact PySem.W.mg_of X G q
    · cases z
  · have z := List.all_eq_true.mp k1 f (List.mem_range.mpr hf)
    simp only [Bool.and_eq_true, decide_eq_true_eq] at z
    obtain ⟨z1, z2⟩ := z
    have hm : k.fnL.getD f Str.empty ∈ k.fnL.take k.nG := by
      refine List.mem_of_getElem? (i := f) ?_
      rw [List.getElem?_take_of_lt hf, List.getElem?_eq_getElem z2, List.getD_eq_getElem?_getD, List.getElem?_eq_getElem z2]; rfl
    have q := He.glo_ok X G (c.facts (f := .glo (k.fnL.getD f Str.empty)) (by unfold Pk.fa; exact List.mem_append_right _ (List.mem_append_left _ (List.mem_map_of_mem hm))))
    show mg (k.fnL.getD f Str.empty) = some (.ref (He.fAd K (k.at' f)))
    have e4 : k.at' f = (k.fnL.getD f Str.empty, none) := by
      unfold Pk.at'
      rw [List.getD_eq_getElem?_getD, z1]; rfl
    rw [e4]
    exact q
  · obtain ⟨d, D, FD⟩ := says_fn c hD hf
    exact FD.kp
  · obtain ⟨d, D, FD⟩ := says_fn c hD hf
    exact D.len2
  · show (k.glD[g]?).isSome = true
    rw [List.getElem?_eq_getElem (by rw [← k5]; exact hg)]; rfl
  · show (k.fns[f]?).isSome = true
    rw [List.getElem?_eq_getElem (by omega)]; rfl
  · exact List.all_eq_true.mp k7 cl (List.mem_range.mpr hc)
  · obtain ⟨d, D, FD⟩ := says_fn c hD hf
    obtain ⟨dvs, ds, b1, b2, b3⟩ := D.bind K _ _ FD m hm
    exact ⟨dvs, ds, b1, b2, fun w => b3 _ w⟩
  · have hm := inj cl f q
    refine ⟨He.cls_ok (x := k.nm.cl cl) (c.facts (f := .cls (k.nm.cl cl)) ?_), ?_, He.glo_ok X G (c.facts (f := .glo (k.nm.cl cl)) ?_)⟩
    · unfold Pk.fa
      exact List.mem_append_right _ (List.mem_append_right _ (List.mem_append_right _ (List.mem_append_left _ (List.mem_map_of_mem (f := fun p : Nat × Nat => He.Fa.cls (k.nm.cl p.1)) hm))))
    · have z := List.all_eq_true.mp k3 _ hm
      simp only [decide_eq_true_eq] at z
      have e4 : k.at' f = (k.nm.cl cl, some ("__init__" : Str)) := by
        unfold Pk.at'
        rw [List.getD_eq_getElem?_getD, z]; rfl
      have e5 : (txOf k K mg prog w base).T.fa f = He.ma K (He.ga K (k.nm.cl cl)) "__init__" := by
        show He.fAd K (k.at' f) = _
        rw [e4]; rfl
      rw [e5]
      exact He.mkr_ok (c.facts (f := .mkr (k.nm.cl cl)) (by
        unfold Pk.fa
        exact List.mem_append_right _ (List.mem_append_right _ (List.mem_append_right _ (List.mem_append_right _ (List.mem_append_left _ (List.mem_map_of_mem (f := fun p : Nat × Nat => He.Fa.mkr (k.nm.cl p.1)) hm)))))))
    · unfold Pk.fa
      exact List.mem_append_right _ (List.mem_append_right _ (List.mem_append_left _ (List.mem_map_of_mem (f := fun p : Nat × Nat => He.Fa.glo (k.nm.cl p.1)) hm)))
  · obtain ⟨f, hf⟩ := Option.isSome_iff_exists.mp q
    have hm := inj cl f hf
    refine He.cls_ok (x := k.nm.cl cl) (c.facts (f := .cls (k.nm.cl cl)) ?_)
    unfold Pk.fa
    exact List.mem_append_right _ (List.mem_append_right _ (List.mem_append_right _ (List.mem_append_left _ (List.mem_map_of_mem (f := fun p : Nat × Nat => He.Fa.cls (k.nm.cl p.1)) hm))))
  · have q' : (k.mtL.find? fun t => t.1 == cl && t.2.1 == f).map (·.2.2) = some g := q
    cases hq : k.mtL.find? (fun t => t.1 == cl && t.2.1 == f) with
    | none => rw [hq] at q'; cases q'
    | some t =>
      rw [hq] at q'
      obtain ⟨t1, t2, t3⟩ := t
      cases q'
      have hp := List.find?_some hq
      have hm := List.mem_of_find?_eq_some hq
      simp only [Bool.and_eq_true, beq_iff_eq] at hp
      obtain ⟨rfl, rfl⟩ := hp
      have z := List.all_eq_true.mp k2 _ hm
      simp only [decide_eq_true_eq] at z
      have e4 : k.at' t3 = (k.nm.cl t1, some (k.nm.fld t2)) := by
        unfold Pk.at'
        rw [List.getD_eq_getElem?_getD, z]; rfl
      have e5 : (txOf k K mg prog w base).T.fa t3 = He.ma K (He.ga K (k.nm.cl t1)) (k.nm.fld t2) := by
        show He.fAd K (k.at' t3) = _
        rw [e4]; rfl
      refine ⟨He.cls_ok (x := k.nm.cl t1) (c.facts (f := .cls (k.nm.cl t1)) ?_), ?_⟩
      · unfold Pk.fa
        exact List.mem_append_right _ (List.mem_append_right _ (List.mem_append_right _ (List.mem_append_right _ (List.mem_append_right _ (List.mem_append_right _ (List.mem_append_left _ (List.mem_map_of_mem (f := fun t : Nat × Nat × Nat => He.Fa.cls (k.nm.cl t.1)) hm)))))))
      · rw [e5]
        exact He.meth_ok (c.facts (f := .meth (k.nm.cl t1) (k.nm.fld t2)) (by
          unfold Pk.fa
          exact List.mem_append_right _ (List.mem_append_right _ (List.mem_append_right _ (List.mem_append_right _ (List.mem_append_right _ (List.mem_append_left _ (List.mem_map_of_mem (f := fun t : Nat × Nat × Nat => He.Fa.meth (k.nm.cl t.1) (k.nm.fld t.2.1)) hm))))))))
theorem cl_ok (hk : k.okB = true) (c : He.SaysD k.fa defs K) (prog : Program) (w : World) (base : Heap) : ClOk (txOf k K mg prog w base) := by
  unfold Pk.okB at hk
  rw [Bool.and_eq_true, Bool.and_eq_true, Bool.and_eq_true, Bool.and_eq_true] at hk
  have k4 := hk.1.1.1.2
  refine ⟨fldOf_inj k4, fun cl f q => ?_, fun _ _ => rfl⟩
  have q' : k.fdL.contains (cl, f) = true := q
  have hm : (cl, f) ∈ k.fdL := by simpa using q'
  refine ⟨He.cls_ok (x := k.nm.cl cl) (c.facts (f := .cls (k.nm.cl cl)) ?_), He.noat_ok (x := k.nm.cl cl) (c.facts (f := .noat (k.nm.cl cl) (k.nm.fld f)) ?_)⟩
  · unfold Pk.fa
    exact List.mem_append_right _ (List.mem_append_right _ (List.mem_append_right _ (List.mem_append_right _ (List.mem_append_right _ (List.mem_append_right _ (List.mem_append_right _ (List.mem_append_right _ (List.mem_map_of_mem (f := fun t : Nat × Nat => He.Fa.cls (k.nm.cl t.1)) hm))))))))
  · unfold Pk.fa
    exact List.mem_append_right _ (List.mem_append_right _ (List.mem_append_right _ (List.mem_append_right _ (List.mem_append_right _ (List.mem_append_right _ (List.mem_append_right _ (List.mem_append_left _ (List.mem_map_of_mem (f := fun t : Nat × Nat => He.Fa.noat (k.nm.cl t.1) (k.nm.fld t.2)) hm))))))))
theorem fn_k (c : He.SaysD k.fa defs K) (hD : ∀ f F, k.fns[f]? = some F → ∃ d ∈ defs, DOk k f F d) (prog : Program) (w : World) (base : Heap) (f : Nat) (F : Fn) (hf : k.fns[f]? = some F) : FnK (txOf k K mg prog w base) k.nG k.psF f F := by
  obtain ⟨d, D, FD⟩ := says_fn c hD hf
  refine ⟨d.name, d.qual, d.params, d.scope, d.dvs K, d.kws K, k.nsF f, ?_, D.sc, D.len1, D.ok⟩
  have e := D.body
  rw [e] at FD
  exact FD
end
/-! ### the Hook -/
abbrev AlM : Type := He.AlD × Bool
def obsM (n : Nat) (k : Pk) (fn : List He.DefD) (g : Addr → Option Obj) : AlM := (He.obsD k.fa fn (He.frG g (He.asD g n)), k.ex (He.frG g (He.asD g n)))
def hookM (n : Nat) (k : Pk) (fn : List He.DefD) : PySem.W.Hook where
  α := AlM
  obs := fun s => obsM n k fn s.heap.get?
  val := fun _ => (He.valD fn, true)
  says := fun _ h => ∃ K : PySem.W.Frag, K.In h ∧ He.SaysD k.fa fn K ∧ k.ex K = true
  of := fun _ _ e => ⟨_, He.frG_in, congrArg (fun z : AlM => z.1) e, congrArg (fun z : AlM => z.2) e⟩
  keeps := fun _ _ _ ⟨K, hK, c⟩ kk => ⟨K, PySem.W.Frag.In.keeps hK kk, c⟩
theorem obsM_eq {n : Nat} {k : Pk} {fn : List He.DefD} {g : Addr → Option Obj} {s : Shared} (h : ∀ a, g a = s.heap.get? a) : obsM n k fn g = (hookM n k fn).obs s := by
  have e : g = s.heap.get? := funext h
  rw [e] <;> rfl
end MP
set_option linter.all false
set_option maxRecDepth 100000
set_option maxHeartbeats 1000000
/-! M17: the law. -/
namespace MP
open PySem PySem.Spec PyProof.Rows L2
/-- what is known of the law's call -/
def LawS (l : PySem.W.OpenLaw) (w : World) (mg : Str → Option Value) (n j : Nat) (x : Str) (fa : Addr) (h : Heap) : Prop :=
  ∃ (K : PySem.W.Frag) (fd : FuncData) (sp : Sp), K.In h ∧ (∀ (s : Shared) (u : Value), BindsTo s fd ⟨[u], []⟩ [(x, u)]) ∧
    (∀ (H : Hp) (a : Addr) (ns : List Int), ns.length ≤ n → (∀ z ∈ ns, Builtin.Int.intBits z ≤ 1048576) → SqL K H a (ns.map V.int) → sp [.ref a] H (fun v _ => v = .bl true) fun _ _ _ => False) ∧
    ∀ base : Heap, K.In base → base.Ns mainGlobals mg → FnOk l.prog w K mg base (L2N.CX l.prog w) j fa fd [x] sp
theorem walk_ofM {l : PySem.W.OpenLaw} {n j : Nat} {q : Program} {loose : List Str} {XP : (Str → Option Value) → Heap → Prop} {YP : World → Heap → Prop} {d : DefRec} {x : Str}
    (hn : l.most = some n) (hn2 : n ≤ sizeLine) (hdf : d.params.defaults = []) (hr : Room j callerA)
    (F : ∀ (w : World) (mg : Str → Option Value) (fa : Addr) (h : Heap), YP w h → h.Ns mainGlobals mg → mg d.name = some (.ref fa) → LawS l w mg n j x fa h) :
    PySem.W.WalkO q loose XP YP l.row.toRowW d [] (fun f vs => PySem.call f vs) := by
  refine Att.attach_callB hn hdf fun w s₀ s₁ mg mb fa o pm cd doc a vs ns G Y ho hd hcd hmg hobj hints hlen hbits hg => ?_
  obtain ⟨K, fd, sp, KX, hb, hsp, hF⟩ := F w mg fa _ Y G.T.g hmg
  exact law_call KX G.T.g G.T.b G.T.builtins G.T.nolimit hg hobj hints (Nat.le_trans hlen hn2) hr hF hb (fun H hO hS => hsp H a ns hlen hbits hS) fun H e s' ⟨_, _, _, _, _, _, _, _, _, _, _, _, z⟩ => z
/-- the law's run by the interpreter -/
def LawRun (k : Pk) (chk : St → St → Bool) (fuel d f : Nat) : Prop := ∀ ns : List Int, ns.length ≤ 63 → (∀ z ∈ ns, Builtin.Int.intBits z ≤ 1048576) → ∃ st, callF k.pg chk fuel d f [.lst (ns.map .int)] [] = .ok (.bl true) st
theorem rv_ints {T : Tx} {w : Wd} : ∀ ns : List Int, RVs T w (ns.map V.int) (ns.map D.int)
  | [] => .nil
  | n :: ns => .cons (.int n) (rv_ints ns)
theorem mem_kl {α : Type} : ∀ {l : List (Addr × α)} {a : Addr} {o : α}, l.lookup a = some o → (a, o) ∈ l
  | [], _, _, h => by cases h
  | (b, v) :: l, a, o, h => by
    rw [List.lookup_cons] at h
    by_cases e : a = b
    · subst e
      rw [beq_self_eq_true] at h
      cases h
      exact List.mem_cons_self
    · have e2 : (a == b) = false := by simpa using e
      rw [e2] at h
      exact List.mem_cons_of_mem _ (mem_kl h)
theorem law_of {l : PySem.W.OpenLaw} {k : Pk} {defs : List He.DefD} {chk : St → St → Bool} {fuel d f : Nat} {F : Fn} {x : Str} (hk : k.okB = true) (hD : ∀ f F, k.fns[f]? = some F → ∃ d ∈ defs, DOk k f F d) (hchk : ∀ a b, chk a b = true → a = b)
    (hf : k.fns[f]? = some F) (hnp : F.np = 1) (hdf : F.dfl = []) (hps : k.psF f = [x]) (hnG : f < k.nG) {dl : He.DefD} (hdl : dl ∈ defs) (Dl : DOk k f F dl) (hb : ∀ (K : PySem.W.Frag) (a : Addr) (fd : FuncData), FunD K dl.name dl.qual dl.params dl.body dl.scope (dl.dvs K) (dl.kws K) a fd → ∀ (s : Shared) (u : Value), BindsTo s fd ⟨[u], []⟩ [(x, u)])
    (run : LawRun k chk fuel d f) (w : World) (mg : Str → Option Value) (fa : Addr) (h : Heap) (Y : (hookM 4 k defs).says w h) (G : h.Ns mainGlobals mg) (hmg : mg (k.nm.fn f) = some (.ref fa)) : LawS l w mg 63 (2 * d) x fa h := by
  obtain ⟨K, KX, c, e⟩ := Y
  have O := fun base => tx_ok hk KX G c e hD l.prog w base
  have L := fun base => cl_ok (mg := mg) hk c l.prog w base
  have hfa : fa = He.fAd K (k.at' f) := by
    have z := (O default).fnG f hnG
    have z2 : mg (k.nm.fn f) = some (.ref (He.fAd K (k.at' f))) := z
    rw [hmg] at z2
    cases z2; rfl
  subst hfa
  have FK := fun base => fn_k (mg := mg) c hD l.prog w base
  have CO := fun base => call_ok (chk := chk) (fuel := fuel) (O base) (L base) (fun _ => rfl) hchk (FK base) d
  have hno : ∀ a o, K.lookup a = some o → o.cls ≠ .type "list" := by
    intro a o q z
    unfold Pk.ex at e
    simp only [Bool.and_eq_true] at e
    have m := List.all_eq_true.mp e.1.1 (a, o) (mem_kl q)
    dsimp only at m
    rw [z] at m
    simp at m
  refine ⟨K, fdOf K (He.fAd K (k.at' f)), fun vs H Q _ => ∃ a ns, vs = [.ref a] ∧ ns.length ≤ 63 ∧ (∀ z ∈ ns, Builtin.Int.intBits z ≤ 1048576) ∧ SqL K H a (ns.map V.int) ∧ ∀ H', Q (.bl true) H', KX, hb K (He.fAd K (k.at' f)) _ ?_, fun H a ns hl hbits hS => ⟨a, ns, rfl, hl, hbits, hS, fun _ => rfl⟩, fun base hKb hns => ?_⟩
  · obtain ⟨fd', FD'⟩ := He.SaysD.defs c hdl
    have e4 : k.at' f = dl.at_ := by
      unfold Pk.at'
      rw [List.getD_eq_getElem?_getD, Dl.at_]; rfl
    rw [← e4] at FD'
    rw [fdOf_eq FD']; exact FD'
  · obtain ⟨rn, hrun, FO⟩ := (CO base).some f F hf
    have z : FnOk l.prog w K mg base (L2N.CX l.prog w) (2 * d) (He.fAd K (k.at' f)) (fdOf K (He.fAd K (k.at' f))) (k.psF f) (spI (txOf k K mg l.prog w base) F.np rn) := FO
    rw [hps] at z
    refine z.imp fun vs H Q E ⟨a, ns, ev, hl, hbits, hS, hQ⟩ => ?_
    subst ev
    rcases hS with hS | ⟨o, its, n, q, hc, _⟩
    · have hex : ∃ o, H a = some o := by
        rcases hS with hS | ⟨o, hS⟩
        · exact ⟨_, hS⟩
        · exact ⟨_, hS⟩
      have hs : RS' (txOf k K mg l.prog w base).T ⟨fun b => b = a, fun _ => 0, 0, H, fun _ => False⟩ [] :=
        ⟨rfl, fun i o e => by simp at e, fun i j o u e => by simp at e, fun i o e => by simp at e, fun b hb => by
          have hb' : b = a := hb
          rw [hb']; exact hex, fun b hb => hb.elim⟩
      obtain ⟨st, hr⟩ := run ns hl hbits
      refine ⟨⟨fun b => b = a, fun _ => 0, 0, H, fun _ => False⟩, [.lst (ns.map .int)], [], rfl, hs, .cons (.lst ⟨hS, rfl⟩ (by rw [List.length_map]; unfold lim; omega) (rv_ints ns)) .nil, by rw [hnp]; rfl, ?_⟩
      have h2 := hrun [.lst (ns.map .int)] []
      have h3 : (cfgOf (txOf k K mg l.prog w base).P fuel (callF (txOf k K mg l.prog w base).P chk fuel d)).call f [.lst (ns.map .int)] [] = .ok (.bl true) st := hr
      rw [h3] at h2
      have h4 : filled F [.lst (ns.map .int)] = some [.lst (ns.map .int)] := by
        unfold filled
        rw [hnp, hdf]
        simp
      rw [h4] at h2
      dsimp only at h2
      rw [← h2]
      intro w' b x' s' r
      have r' : RV (txOf k K mg l.prog w base).T w' b (.bl true) := r
      cases r'
      exact hQ _
    · exact absurd hc (hno a o q)
end MP
set_option Elab.async false
set_option linter.all false
set_option maxRecDepth 100000
set_option maxHeartbeats 4000000
/-! The program of I86, written by gen.py. -/
namespace I86
open PySem PySem.Spec PyProof.Rows L2 MP
abbrev D := MP.D
abbrev Fn := MP.Fn
def sc0 : Scope := { kind := PySem.ScopeKind.function, names := [ (PySem.Str.ofString ".0", PySem.NameKind.local), (PySem.Str.ofString "entry", PySem.NameKind.local), (PySem.Str.ofString "part", PySem.NameKind.free)], isGenerator := false, isCoroutine := false, more := [] : PySem.Scope }
def sc1 : Scope := { kind := PySem.ScopeKind.function, names := [ (PySem.Str.ofString ".0", PySem.NameKind.local), (PySem.Str.ofString "top", PySem.NameKind.local), (PySem.Str.ofString "bottom", PySem.NameKind.local), (PySem.Str.ofString "factor", PySem.NameKind.free)], isGenerator := false, isCoroutine := false, more := [] : PySem.Scope }
def sc2 : Scope := { kind := PySem.ScopeKind.function, names := [ (PySem.Str.ofString ".0", PySem.NameKind.local), (PySem.Str.ofString "cost", PySem.NameKind.local), (PySem.Str.ofString "ZERO", PySem.NameKind.globalImplicit)], isGenerator := false, isCoroutine := false, more := [] : PySem.Scope }
def sc3 : Scope := { kind := PySem.ScopeKind.function, names := [(PySem.Str.ofString ".0", PySem.NameKind.local), (PySem.Str.ofString "k", PySem.NameKind.local)], isGenerator := false, isCoroutine := false, more := [] : PySem.Scope }
def sc4 : Scope := { kind := PySem.ScopeKind.function, names := [(PySem.Str.ofString ".0", PySem.NameKind.local), (PySem.Str.ofString "row", PySem.NameKind.local)], isGenerator := false, isCoroutine := false, more := [] : PySem.Scope }
def sc5 : Scope := { kind := PySem.ScopeKind.function, names := [(PySem.Str.ofString ".0", PySem.NameKind.local), (PySem.Str.ofString "cost", PySem.NameKind.local)], isGenerator := false, isCoroutine := false, more := [] : PySem.Scope }
def sc6 : Scope := { kind := PySem.ScopeKind.function, names := [ (PySem.Str.ofString ".0", PySem.NameKind.local), (PySem.Str.ofString "j", PySem.NameKind.local), (PySem.Str.ofString "draws", PySem.NameKind.free), (PySem.Str.ofString "factors", PySem.NameKind.free), (PySem.Str.ofString "i", PySem.NameKind.free), (PySem.Str.ofString "many", PySem.NameKind.free)], isGenerator := false, isCoroutine := false, more := [] : PySem.Scope }
def sc7 : Scope := { kind := PySem.ScopeKind.function, names := [ (PySem.Str.ofString ".0", PySem.NameKind.local), (PySem.Str.ofString "j", PySem.NameKind.local), (PySem.Str.ofString "max", PySem.NameKind.globalImplicit), (PySem.Str.ofString "draws", PySem.NameKind.free)], isGenerator := false, isCoroutine := false, more := [] : PySem.Scope }
def sc8 : Scope := { kind := PySem.ScopeKind.function, names := [ (PySem.Str.ofString ".0", PySem.NameKind.local), (PySem.Str.ofString "i", PySem.NameKind.local), (PySem.Str.ofString "max", PySem.NameKind.globalImplicit), (PySem.Str.ofString "draws", PySem.NameKind.free)], isGenerator := false, isCoroutine := false, more := [] : PySem.Scope }
def sc9 : Scope := { kind := PySem.ScopeKind.function, names := [ (PySem.Str.ofString ".0", PySem.NameKind.local), (PySem.Str.ofString "j", PySem.NameKind.local), (PySem.Str.ofString "_law_ratio", PySem.NameKind.globalImplicit), (PySem.Str.ofString "draws", PySem.NameKind.free)], isGenerator := false, isCoroutine := false, more := [] : PySem.Scope }
def sc10 : Scope := { kind := PySem.ScopeKind.function, names := [ (PySem.Str.ofString ".0", PySem.NameKind.local), (PySem.Str.ofString "i", PySem.NameKind.local), (PySem.Str.ofString "draws", PySem.NameKind.free)], isGenerator := false, isCoroutine := false, more := [] : PySem.Scope }
def sc11 : Scope := { kind := PySem.ScopeKind.function, names := [ (PySem.Str.ofString ".0", PySem.NameKind.local), (PySem.Str.ofString "j", PySem.NameKind.local), (PySem.Str.ofString "_law_add", PySem.NameKind.globalImplicit), (PySem.Str.ofString "draws", PySem.NameKind.free), (PySem.Str.ofString "sums", PySem.NameKind.free)], isGenerator := false, isCoroutine := false, more := [] : PySem.Scope }
def sc12 : Scope := { kind := PySem.ScopeKind.function, names := [ (PySem.Str.ofString ".0", PySem.NameKind.local), (PySem.Str.ofString "j", PySem.NameKind.local), (PySem.Str.ofString "draws", PySem.NameKind.free)], isGenerator := false, isCoroutine := false, more := [] : PySem.Scope }
def sc13 : Scope := { kind := PySem.ScopeKind.function, names := [(PySem.Str.ofString ".0", PySem.NameKind.local), (PySem.Str.ofString "factor", PySem.NameKind.local)], isGenerator := false, isCoroutine := false, more := [] : PySem.Scope }
def sc14 : Scope := { kind := PySem.ScopeKind.function, names := [ (PySem.Str.ofString ".0", PySem.NameKind.local), (PySem.Str.ofString "line", PySem.NameKind.local), (PySem.Str.ofString "bound", PySem.NameKind.local), (PySem.Str.ofString "list", PySem.NameKind.globalImplicit)], isGenerator := false, isCoroutine := false, more := [] : PySem.Scope }
def sc15 : Scope := { kind := PySem.ScopeKind.function, names := [ (PySem.Str.ofString ".0", PySem.NameKind.local), (PySem.Str.ofString "line", PySem.NameKind.local), (PySem.Str.ofString "bound", PySem.NameKind.local), (PySem.Str.ofString "whole_row", PySem.NameKind.globalImplicit), (PySem.Str.ofString "minus", PySem.NameKind.globalImplicit), (PySem.Str.ofString "ZERO", PySem.NameKind.globalImplicit), (PySem.Str.ofString "list", PySem.NameKind.globalImplicit)], isGenerator := false, isCoroutine := false, more := [] : PySem.Scope }
def sc16 : Scope := { kind := PySem.ScopeKind.function, names := [ (PySem.Str.ofString ".0", PySem.NameKind.local), (PySem.Str.ofString "k", PySem.NameKind.local), (PySem.Str.ofString "self", PySem.NameKind.free)], isGenerator := false, isCoroutine := false, more := [] : PySem.Scope }
def sc17 : Scope := { kind := PySem.ScopeKind.function, names := [ (PySem.Str.ofString ".0", PySem.NameKind.local), (PySem.Str.ofString "k", PySem.NameKind.local), (PySem.Str.ofString "last", PySem.NameKind.free), (PySem.Str.ofString "self", PySem.NameKind.free)], isGenerator := false, isCoroutine := false, more := [] : PySem.Scope }
def sc18 : Scope := { kind := PySem.ScopeKind.function, names := [ (PySem.Str.ofString ".0", PySem.NameKind.local), (PySem.Str.ofString "entry", PySem.NameKind.local), (PySem.Str.ofString "sign", PySem.NameKind.free)], isGenerator := false, isCoroutine := false, more := [] : PySem.Scope }
def sc19 : Scope := { kind := PySem.ScopeKind.function, names := [ (PySem.Str.ofString ".0", PySem.NameKind.local), (PySem.Str.ofString "j", PySem.NameKind.local), (PySem.Str.ofString "fresh", PySem.NameKind.free), (PySem.Str.ofString "lead", PySem.NameKind.free), (PySem.Str.ofString "row", PySem.NameKind.free)], isGenerator := false, isCoroutine := false, more := [] : PySem.Scope }
def sc20 : Scope := { kind := PySem.ScopeKind.function, names := [ (PySem.Str.ofString ".0", PySem.NameKind.local), (PySem.Str.ofString "k", PySem.NameKind.local), (PySem.Str.ofString "ZERO", PySem.NameKind.globalImplicit)], isGenerator := false, isCoroutine := false, more := [] : PySem.Scope }
/-- ratio -/
def n0 : List Str := (["top", "bottom", "part"] : List (Str))
def p0 : List Str := (["top", "bottom"] : List (Str))
def b0 : Ss := (.cons (.if_ ⟨13, 4, 14, 31⟩ (.cmp ⟨13, 7, 13, 18⟩ .eq (.var ⟨13, 7, 13, 13⟩ 1) (.cst ⟨13, 17, 13, 18⟩ 0 (.int 0))) (.cons (.raise ⟨14, 8, 14, 31⟩ ⟨14, 14, 14, 31⟩ ⟨14, 14, 14, 23⟩ 2 (.cons (.var ⟨14, 24, 14, 30⟩ 1) .nil)) .nil) .nil) (.cons (.asg ⟨15, 4, 15, 27⟩ (.name ⟨15, 4, 15, 8⟩ 2) (.bi ⟨15, 11, 15, 27⟩ ⟨15, 11, 15, 14⟩ .gcd false (.cons (.var ⟨15, 15, 15, 18⟩ 0) (.cons (.var ⟨15, 20, 15, 26⟩ 1) .nil)))) (.cons (.if_ ⟨16, 4, 17, 20⟩ (.cmp ⟨16, 7, 16, 17⟩ .lt (.var ⟨16, 7, 16, 13⟩ 1) (.cst ⟨16, 16, 16, 17⟩ 0 (.int 0))) (.cons (.asg ⟨17, 8, 17, 20⟩ (.name ⟨17, 8, 17, 12⟩ 2) (.neg ⟨17, 15, 17, 20⟩ (.var ⟨17, 16, 17, 20⟩ 2))) .nil) .nil) (.cons (.ret ⟨18, 4, 18, 40⟩ (.tup ⟨18, 11, 18, 40⟩ 0 (.cons (.bin ⟨18, 12, 18, 23⟩ false .fdiv (.var ⟨18, 12, 18, 15⟩ 0) (.var ⟨18, 19, 18, 23⟩ 2)) (.cons (.bin ⟨18, 25, 18, 39⟩ false .fdiv (.var ⟨18, 25, 18, 31⟩ 1) (.var ⟨18, 35, 18, 39⟩ 2)) .nil)))) .nil))))
def f0 : Fn := ⟨2, 3, [.int (1)], b0, true⟩
/-- minus -/
def n1 : List Str := (["a", "b"] : List (Str))
def p1 : List Str := (["a", "b"] : List (Str))
def b1 : Ss := (.cons (.ret ⟨20, 4, 20, 56⟩ (.call ⟨20, 11, 20, 56⟩ ⟨20, 11, 20, 16⟩ 0 (.cons (.bin ⟨20, 17, 20, 42⟩ false .sub (.bin ⟨20, 17, 20, 28⟩ false .mul (.idx ⟨20, 17, 20, 21⟩ (.var ⟨20, 17, 20, 18⟩ 0) (.cst ⟨20, 19, 20, 20⟩ 0 (.int 0))) (.idx ⟨20, 24, 20, 28⟩ (.var ⟨20, 24, 20, 25⟩ 1) (.cst ⟨20, 26, 20, 27⟩ 0 (.int 1)))) (.bin ⟨20, 31, 20, 42⟩ false .mul (.idx ⟨20, 31, 20, 35⟩ (.var ⟨20, 31, 20, 32⟩ 1) (.cst ⟨20, 33, 20, 34⟩ 0 (.int 0))) (.idx ⟨20, 38, 20, 42⟩ (.var ⟨20, 38, 20, 39⟩ 0) (.cst ⟨20, 40, 20, 41⟩ 0 (.int 1))))) (.cons (.bin ⟨20, 44, 20, 55⟩ false .mul (.idx ⟨20, 44, 20, 48⟩ (.var ⟨20, 44, 20, 45⟩ 0) (.cst ⟨20, 46, 20, 47⟩ 0 (.int 1))) (.idx ⟨20, 51, 20, 55⟩ (.var ⟨20, 51, 20, 52⟩ 1) (.cst ⟨20, 53, 20, 54⟩ 0 (.int 1)))) .nil)))) .nil)
def f1 : Fn := ⟨2, 2, [], b1, true⟩
/-- lowest -/
def n2 : List Str := (["row", "part", "entry"] : List (Str))
def p2 : List Str := (["row"] : List (Str))
def b2 : Ss := (.cons (.asg ⟨23, 4, 23, 12⟩ (.name ⟨23, 4, 23, 8⟩ 1) (.cst ⟨23, 11, 23, 12⟩ 0 (.int 0))) (.cons (.for_ ⟨24, 4, 27, 22⟩ (.name ⟨24, 8, 24, 13⟩ 2) (.of (.var ⟨24, 17, 24, 20⟩ 0)) (.cons (.asg ⟨25, 8, 25, 31⟩ (.name ⟨25, 8, 25, 12⟩ 1) (.bi ⟨25, 15, 25, 31⟩ ⟨25, 15, 25, 18⟩ .gcd false (.cons (.var ⟨25, 19, 25, 23⟩ 1) (.cons (.var ⟨25, 25, 25, 30⟩ 2) .nil)))) (.cons (.if_ ⟨26, 8, 27, 22⟩ (.cmp ⟨26, 11, 26, 20⟩ .eq (.var ⟨26, 11, 26, 15⟩ 1) (.cst ⟨26, 19, 26, 20⟩ 0 (.int 1))) (.cons (.ret ⟨27, 12, 27, 22⟩ (.var ⟨27, 19, 27, 22⟩ 0)) .nil) .nil) .nil))) (.cons (.ret ⟨28, 4, 28, 43⟩ (.comp ⟨28, 11, 28, 43⟩ false sc0 [("entry", 2)] (.bin ⟨28, 12, 28, 25⟩ false .fdiv (.var ⟨28, 12, 28, 17⟩ 2) (.var ⟨28, 21, 28, 25⟩ 1)) (.name ⟨28, 30, 28, 35⟩ 2) (.of (.var ⟨28, 39, 28, 42⟩ 0)) .nil)) .nil)))
def ce2_0 : E := (.bin ⟨28, 12, 28, 25⟩ false .fdiv (.var ⟨28, 12, 28, 17⟩ 2) (.var ⟨28, 21, 28, 25⟩ 1))
def ct2_0 : Tg := (.name ⟨28, 30, 28, 35⟩ 2)
def ci2_0 : Es := .nil
def lt2_0 : Tg := (.name ⟨24, 8, 24, 13⟩ 2)
def lb2_0 : Ss := (.cons (.asg ⟨25, 8, 25, 31⟩ (.name ⟨25, 8, 25, 12⟩ 1) (.bi ⟨25, 15, 25, 31⟩ ⟨25, 15, 25, 18⟩ .gcd false (.cons (.var ⟨25, 19, 25, 23⟩ 1) (.cons (.var ⟨25, 25, 25, 30⟩ 2) .nil)))) (.cons (.if_ ⟨26, 8, 27, 22⟩ (.cmp ⟨26, 11, 26, 20⟩ .eq (.var ⟨26, 11, 26, 15⟩ 1) (.cst ⟨26, 19, 26, 20⟩ 0 (.int 1))) (.cons (.ret ⟨27, 12, 27, 22⟩ (.var ⟨27, 19, 27, 22⟩ 0)) .nil) .nil) .nil))
def f2 : Fn := ⟨1, 3, [], b2, false⟩
/-- whole_row -/
def n3 : List Str := (["values", "factor", "_", "bottom", "top"] : List (Str))
def p3 : List Str := (["values"] : List (Str))
def b3 : Ss := (.cons (.asg ⟨30, 4, 30, 14⟩ (.name ⟨30, 4, 30, 10⟩ 1) (.cst ⟨30, 13, 30, 14⟩ 0 (.int 1))) (.cons (.for_ ⟨31, 4, 32, 55⟩ (.tup ⟨31, 8, 31, 17⟩ 0 [(⟨31, 8, 31, 9⟩, 2), (⟨31, 11, 31, 17⟩, 3)]) (.of (.var ⟨31, 21, 31, 27⟩ 0)) (.cons (.asg ⟨32, 8, 32, 55⟩ (.name ⟨32, 8, 32, 14⟩ 1) (.bin ⟨32, 17, 32, 55⟩ false .mul (.bin ⟨32, 17, 32, 46⟩ false .fdiv (.var ⟨32, 17, 32, 23⟩ 1) (.bi ⟨32, 27, 32, 46⟩ ⟨32, 27, 32, 30⟩ .gcd false (.cons (.var ⟨32, 31, 32, 37⟩ 1) (.cons (.var ⟨32, 39, 32, 45⟩ 3) .nil)))) (.var ⟨32, 49, 32, 55⟩ 3))) .nil)) (.cons (.ret ⟨33, 4, 33, 82⟩ (.call ⟨33, 11, 33, 82⟩ ⟨33, 11, 33, 17⟩ 2 (.cons (.bin ⟨33, 18, 33, 81⟩ false .add (.lst ⟨33, 18, 33, 26⟩ false (.cons (.var ⟨33, 19, 33, 25⟩ 1) .nil)) (.comp ⟨33, 29, 33, 81⟩ false sc1 [("top", 4), ("bottom", 3)] (.bin ⟨33, 30, 33, 54⟩ false .mul (.var ⟨33, 30, 33, 33⟩ 4) (.bin ⟨33, 37, 33, 53⟩ false .fdiv (.var ⟨33, 37, 33, 43⟩ 1) (.var ⟨33, 47, 33, 53⟩ 3))) (.tup ⟨33, 59, 33, 70⟩ 0 [(⟨33, 59, 33, 62⟩, 4), (⟨33, 64, 33, 70⟩, 3)]) (.of (.var ⟨33, 74, 33, 80⟩ 0)) .nil)) .nil))) .nil)))
def ce3_0 : E := (.bin ⟨33, 30, 33, 54⟩ false .mul (.var ⟨33, 30, 33, 33⟩ 4) (.bin ⟨33, 37, 33, 53⟩ false .fdiv (.var ⟨33, 37, 33, 43⟩ 1) (.var ⟨33, 47, 33, 53⟩ 3)))
def ct3_0 : Tg := (.tup ⟨33, 59, 33, 70⟩ 0 [(⟨33, 59, 33, 62⟩, 4), (⟨33, 64, 33, 70⟩, 3)])
def ci3_0 : Es := .nil
def lt3_0 : Tg := (.tup ⟨31, 8, 31, 17⟩ 0 [(⟨31, 8, 31, 9⟩, 2), (⟨31, 11, 31, 17⟩, 3)])
def lb3_0 : Ss := (.cons (.asg ⟨32, 8, 32, 55⟩ (.name ⟨32, 8, 32, 14⟩ 1) (.bin ⟨32, 17, 32, 55⟩ false .mul (.bin ⟨32, 17, 32, 46⟩ false .fdiv (.var ⟨32, 17, 32, 23⟩ 1) (.bi ⟨32, 27, 32, 46⟩ ⟨32, 27, 32, 30⟩ .gcd false (.cons (.var ⟨32, 31, 32, 37⟩ 1) (.cons (.var ⟨32, 39, 32, 45⟩ 3) .nil)))) (.var ⟨32, 49, 32, 55⟩ 3))) .nil)
def f3 : Fn := ⟨1, 5, [], b3, true⟩
/-- solve -/
def n4 : List Str := (["costs", "rows", "table", "word", "place", "last", "fall", "cost"] : List (Str))
def p4 : List Str := (["costs", "rows"] : List (Str))
def b4 : Ss := (.cons (.asg ⟨136, 4, 136, 30⟩ (.name ⟨136, 4, 136, 9⟩ 2) (.make ⟨136, 12, 136, 30⟩ ⟨136, 12, 136, 17⟩ 0 (.cons (.var ⟨136, 18, 136, 23⟩ 0) (.cons (.var ⟨136, 25, 136, 29⟩ 1) .nil)))) (.cons (.asg ⟨137, 4, 137, 29⟩ (.tup ⟨137, 4, 137, 15⟩ 0 [(⟨137, 4, 137, 8⟩, 3), (⟨137, 10, 137, 15⟩, 4)]) (.meth ⟨137, 18, 137, 29⟩ ⟨137, 18, 137, 27⟩ (.var ⟨137, 18, 137, 23⟩ 2) 5 .nil)) (.cons (.if_ ⟨138, 4, 140, 79⟩ (.cmp ⟨138, 7, 138, 21⟩ .eq (.var ⟨138, 7, 138, 11⟩ 3) (.cst ⟨138, 15, 138, 21⟩ 0 (.str "best"))) (.cons (.asg ⟨139, 8, 139, 29⟩ (.name ⟨139, 8, 139, 12⟩ 5) (.idx ⟨139, 15, 139, 29⟩ (.attr ⟨139, 15, 139, 25⟩ (.var ⟨139, 15, 139, 20⟩ 2) 10) (.neg ⟨139, 26, 139, 28⟩ (.cst ⟨139, 27, 139, 28⟩ 0 (.int 1))))) (.cons (.ret ⟨140, 8, 140, 79⟩ (.tup ⟨140, 15, 140, 79⟩ 0 (.cons (.cst ⟨140, 16, 140, 22⟩ 0 (.str "best")) (.cons (.call ⟨140, 24, 140, 47⟩ ⟨140, 24, 140, 29⟩ 0 (.cons (.idx ⟨140, 30, 140, 37⟩ (.var ⟨140, 30, 140, 34⟩ 5) (.cst ⟨140, 35, 140, 36⟩ 0 (.int 1))) (.cons (.idx ⟨140, 39, 140, 46⟩ (.var ⟨140, 39, 140, 43⟩ 5) (.cst ⟨140, 44, 140, 45⟩ 0 (.int 0))) .nil))) (.cons (.meth ⟨140, 49, 140, 62⟩ ⟨140, 49, 140, 60⟩ (.var ⟨140, 49, 140, 54⟩ 2) 6 .nil) (.cons (.meth ⟨140, 64, 140, 78⟩ ⟨140, 64, 140, 76⟩ (.var ⟨140, 64, 140, 69⟩ 2) 7 .nil) .nil)))))) .nil)) .nil) (.cons (.if_ ⟨141, 4, 142, 40⟩ (.cmp ⟨141, 7, 141, 20⟩ .eq (.var ⟨141, 7, 141, 11⟩ 3) (.cst ⟨141, 15, 141, 20⟩ 0 (.str "row"))) (.cons (.ret ⟨142, 8, 142, 40⟩ (.tup ⟨142, 15, 142, 40⟩ 0 (.cons (.cst ⟨142, 16, 142, 21⟩ 0 (.str "bar")) (.cons (.meth ⟨142, 23, 142, 39⟩ ⟨142, 23, 142, 32⟩ (.var ⟨142, 23, 142, 28⟩ 2) 8 (.cons (.var ⟨142, 33, 142, 38⟩ 4) .nil)) .nil)))) .nil) .nil) (.cons (.asg ⟨143, 4, 143, 33⟩ (.name ⟨143, 4, 143, 8⟩ 6) (.meth ⟨143, 11, 143, 33⟩ ⟨143, 11, 143, 26⟩ (.var ⟨143, 11, 143, 16⟩ 2) 9 (.cons (.var ⟨143, 27, 143, 32⟩ 4) .nil))) (.cons (.asg ⟨144, 4, 144, 49⟩ (.name ⟨144, 4, 144, 9⟩ 2) (.make ⟨144, 12, 144, 49⟩ ⟨144, 12, 144, 17⟩ 0 (.cons (.comp ⟨144, 18, 144, 42⟩ false sc2 [("cost", 7)] (.glob ⟨144, 19, 144, 23⟩ 0) (.name ⟨144, 28, 144, 32⟩ 7) (.of (.var ⟨144, 36, 144, 41⟩ 0)) .nil) (.cons (.var ⟨144, 44, 144, 48⟩ 1) .nil)))) (.cons (.asg ⟨145, 4, 145, 29⟩ (.tup ⟨145, 4, 145, 15⟩ 0 [(⟨145, 4, 145, 8⟩, 3), (⟨145, 10, 145, 15⟩, 4)]) (.meth ⟨145, 18, 145, 29⟩ ⟨145, 18, 145, 27⟩ (.var ⟨145, 18, 145, 23⟩ 2) 5 .nil)) (.cons (.if_ ⟨146, 4, 147, 40⟩ (.cmp ⟨146, 7, 146, 20⟩ .eq (.var ⟨146, 7, 146, 11⟩ 3) (.cst ⟨146, 15, 146, 20⟩ 0 (.str "row"))) (.cons (.ret ⟨147, 8, 147, 40⟩ (.tup ⟨147, 15, 147, 40⟩ 0 (.cons (.cst ⟨147, 16, 147, 21⟩ 0 (.str "bar")) (.cons (.meth ⟨147, 23, 147, 39⟩ ⟨147, 23, 147, 32⟩ (.var ⟨147, 23, 147, 28⟩ 2) 8 (.cons (.var ⟨147, 33, 147, 38⟩ 4) .nil)) .nil)))) .nil) .nil) (.cons (.ret ⟨148, 4, 148, 39⟩ (.tup ⟨148, 11, 148, 39⟩ 0 (.cons (.cst ⟨148, 12, 148, 17⟩ 0 (.str "ray")) (.cons (.meth ⟨148, 19, 148, 32⟩ ⟨148, 19, 148, 30⟩ (.var ⟨148, 19, 148, 24⟩ 2) 6 .nil) (.cons (.var ⟨148, 34, 148, 38⟩ 6) .nil))))) .nil)))))))))
def ce4_0 : E := (.glob ⟨144, 19, 144, 23⟩ 0)
def ct4_0 : Tg := (.name ⟨144, 28, 144, 32⟩ 7)
def ci4_0 : Es := .nil
def f4 : Fn := ⟨2, 8, [], b4, true⟩
/-- _law_cell -/
def n5 : List Str := (["script", "k"] : List (Str))
def p5 : List Str := (["script", "k"] : List (Str))
def b5 : Ss := (.cons (.if_ ⟨151, 4, 152, 24⟩ (.cmp ⟨151, 7, 151, 22⟩ .lt (.var ⟨151, 7, 151, 8⟩ 1) (.bi ⟨151, 11, 151, 22⟩ ⟨151, 11, 151, 14⟩ .len false (.cons (.var ⟨151, 15, 151, 21⟩ 0) .nil))) (.cons (.ret ⟨152, 8, 152, 24⟩ (.idx ⟨152, 15, 152, 24⟩ (.var ⟨152, 15, 152, 21⟩ 0) (.var ⟨152, 22, 152, 23⟩ 1))) .nil) .nil) (.cons (.ret ⟨153, 4, 153, 40⟩ (.bin ⟨153, 11, 153, 40⟩ false .add (.bin ⟨153, 11, 153, 36⟩ false .add (.bin ⟨153, 11, 153, 27⟩ false .mul (.bi ⟨153, 11, 153, 22⟩ ⟨153, 11, 153, 14⟩ .sum1 false (.cons (.var ⟨153, 15, 153, 21⟩ 0) .nil)) (.cst ⟨153, 25, 153, 27⟩ 0 (.int 31))) (.bin ⟨153, 30, 153, 36⟩ false .mul (.cst ⟨153, 30, 153, 32⟩ 0 (.int 17)) (.var ⟨153, 35, 153, 36⟩ 1))) (.cst ⟨153, 39, 153, 40⟩ 0 (.int 5)))) .nil))
def f5 : Fn := ⟨2, 2, [], b5, true⟩
/-- _law_draws -/
def n6 : List Str := (["cell", "many", "seed", "left", "big", "found", "k", "mixed"] : List (Str))
def p6 : List Str := (["cell", "many"] : List (Str))
def b6 : Ss := (.cons (.asg ⟨155, 4, 155, 25⟩ (.name ⟨155, 4, 155, 8⟩ 2) (.bi ⟨155, 11, 155, 25⟩ ⟨155, 11, 155, 14⟩ .abs false (.cons (.bi ⟨155, 15, 155, 24⟩ ⟨155, 15, 155, 18⟩ .int1 false (.cons (.var ⟨155, 19, 155, 23⟩ 0) .nil)) .nil))) (.cons (.asg ⟨156, 4, 156, 15⟩ (.name ⟨156, 4, 156, 8⟩ 3) (.var ⟨156, 11, 156, 15⟩ 2)) (.cons (.asg ⟨157, 4, 157, 26⟩ (.name ⟨157, 4, 157, 7⟩ 4) (.cmp ⟨157, 10, 157, 26⟩ .ge (.var ⟨157, 10, 157, 14⟩ 2) (.bin ⟨157, 18, 157, 26⟩ false .pow (.cst ⟨157, 18, 157, 20⟩ 0 (.int 10)) (.cst ⟨157, 24, 157, 26⟩ 0 (.int 18))))) (.cons (.asg ⟨158, 4, 158, 14⟩ (.name ⟨158, 4, 158, 9⟩ 5) (.lst ⟨158, 12, 158, 14⟩ true .nil)) (.cons (.for_ ⟨159, 4, 167, 44⟩ (.name ⟨159, 8, 159, 9⟩ 6) (.rng1 ⟨159, 13, 159, 24⟩ ⟨159, 13, 159, 18⟩ (.var ⟨159, 19, 159, 23⟩ 1)) (.cons (.if_ ⟨160, 8, 167, 44⟩ (.and ⟨160, 11, 160, 27⟩ (.cons (.var ⟨160, 11, 160, 14⟩ 4) (.cons (.cmp ⟨160, 19, 160, 27⟩ .gt (.var ⟨160, 19, 160, 23⟩ 3) (.cst ⟨160, 26, 160, 27⟩ 0 (.int 0))) .nil))) (.cons (.expr ⟨161, 12, 161, 37⟩ (.bm ⟨161, 12, 161, 37⟩ ⟨161, 12, 161, 24⟩ .append false (.var ⟨161, 12, 161, 17⟩ 5) (.cons (.bin ⟨161, 25, 161, 36⟩ false .mod (.var ⟨161, 25, 161, 29⟩ 3) (.cst ⟨161, 32, 161, 36⟩ 0 (.int 1000))) .nil))) (.cons (.asg ⟨162, 12, 162, 31⟩ (.name ⟨162, 12, 162, 16⟩ 3) (.bin ⟨162, 19, 162, 31⟩ false .fdiv (.var ⟨162, 19, 162, 23⟩ 3) (.cst ⟨162, 27, 162, 31⟩ 0 (.int 1000)))) .nil)) (.cons (.asg ⟨164, 12, 164, 96⟩ (.name ⟨164, 12, 164, 17⟩ 7) (.bin ⟨164, 20, 164, 96⟩ false .mod (.bi ⟨164, 20, 164, 83⟩ ⟨164, 20, 164, 23⟩ .int1 false (.cons (.bin ⟨164, 24, 164, 82⟩ false .add (.bin ⟨164, 24, 164, 60⟩ false .mul (.bin ⟨164, 25, 164, 46⟩ false .add (.bin ⟨164, 25, 164, 42⟩ false .mod (.var ⟨164, 25, 164, 29⟩ 2) (.cst ⟨164, 32, 164, 42⟩ 0 (.int 2147483647))) (.cst ⟨164, 45, 164, 46⟩ 0 (.int 3))) (.cst ⟨164, 50, 164, 60⟩ 0 (.int 1597334677))) (.bin ⟨164, 63, 164, 82⟩ false .mul (.bin ⟨164, 64, 164, 69⟩ false .add (.var ⟨164, 64, 164, 65⟩ 6) (.cst ⟨164, 68, 164, 69⟩ 0 (.int 1))) (.cst ⟨164, 73, 164, 82⟩ 0 (.int 805459861)))) .nil)) (.cst ⟨164, 86, 164, 96⟩ 0 (.int 2147483647)))) (.cons (.asg ⟨165, 12, 165, 67⟩ (.name ⟨165, 12, 165, 17⟩ 7) (.bin ⟨165, 20, 165, 67⟩ false .mod (.bi ⟨165, 20, 165, 54⟩ ⟨165, 20, 165, 23⟩ .int1 false (.cons (.bin ⟨165, 24, 165, 53⟩ false .add (.bin ⟨165, 24, 165, 49⟩ false .add (.bin ⟨165, 24, 165, 37⟩ false .mul (.var ⟨165, 24, 165, 29⟩ 7) (.var ⟨165, 32, 165, 37⟩ 7)) (.bin ⟨165, 40, 165, 49⟩ false .mul (.cst ⟨165, 40, 165, 45⟩ 0 (.int 48271)) (.var ⟨165, 48, 165, 49⟩ 6))) (.cst ⟨165, 52, 165, 53⟩ 0 (.int 7))) .nil)) (.cst ⟨165, 57, 165, 67⟩ 0 (.int 2147483629)))) (.cons (.asg ⟨166, 12, 166, 75⟩ (.name ⟨166, 12, 166, 17⟩ 7) (.bin ⟨166, 20, 166, 75⟩ false .mod (.bi ⟨166, 20, 166, 62⟩ ⟨166, 20, 166, 23⟩ .int1 false (.cons (.bin ⟨166, 24, 166, 61⟩ false .add (.bin ⟨166, 24, 166, 57⟩ false .add (.bin ⟨166, 24, 166, 53⟩ false .add (.bin ⟨166, 24, 166, 37⟩ false .mul (.var ⟨166, 24, 166, 29⟩ 7) (.var ⟨166, 32, 166, 37⟩ 7)) (.bin ⟨166, 40, 166, 53⟩ false .mul (.cst ⟨166, 40, 166, 45⟩ 0 (.int 40692)) (.var ⟨166, 48, 166, 53⟩ 7))) (.var ⟨166, 56, 166, 57⟩ 6)) (.cst ⟨166, 60, 166, 61⟩ 0 (.int 3))) .nil)) (.cst ⟨166, 65, 166, 75⟩ 0 (.int 2147483587)))) (.cons (.expr ⟨167, 12, 167, 44⟩ (.bm ⟨167, 12, 167, 44⟩ ⟨167, 12, 167, 24⟩ .append false (.var ⟨167, 12, 167, 17⟩ 5) (.cons (.bin ⟨167, 25, 167, 43⟩ false .mod (.bin ⟨167, 25, 167, 36⟩ false .fdiv (.var ⟨167, 25, 167, 30⟩ 7) (.cst ⟨167, 34, 167, 36⟩ 0 (.int 16))) (.cst ⟨167, 39, 167, 43⟩ 0 (.int 1000))) .nil))) .nil))))) .nil)) (.cons (.frz 5) (.cons (.ret ⟨168, 4, 168, 16⟩ (.var ⟨168, 11, 168, 16⟩ 5)) .nil)))))))
def lt6_0 : Tg := (.name ⟨159, 8, 159, 9⟩ 6)
def lb6_0 : Ss := (.cons (.if_ ⟨160, 8, 167, 44⟩ (.and ⟨160, 11, 160, 27⟩ (.cons (.var ⟨160, 11, 160, 14⟩ 4) (.cons (.cmp ⟨160, 19, 160, 27⟩ .gt (.var ⟨160, 19, 160, 23⟩ 3) (.cst ⟨160, 26, 160, 27⟩ 0 (.int 0))) .nil))) (.cons (.expr ⟨161, 12, 161, 37⟩ (.bm ⟨161, 12, 161, 37⟩ ⟨161, 12, 161, 24⟩ .append false (.var ⟨161, 12, 161, 17⟩ 5) (.cons (.bin ⟨161, 25, 161, 36⟩ false .mod (.var ⟨161, 25, 161, 29⟩ 3) (.cst ⟨161, 32, 161, 36⟩ 0 (.int 1000))) .nil))) (.cons (.asg ⟨162, 12, 162, 31⟩ (.name ⟨162, 12, 162, 16⟩ 3) (.bin ⟨162, 19, 162, 31⟩ false .fdiv (.var ⟨162, 19, 162, 23⟩ 3) (.cst ⟨162, 27, 162, 31⟩ 0 (.int 1000)))) .nil)) (.cons (.asg ⟨164, 12, 164, 96⟩ (.name ⟨164, 12, 164, 17⟩ 7) (.bin ⟨164, 20, 164, 96⟩ false .mod (.bi ⟨164, 20, 164, 83⟩ ⟨164, 20, 164, 23⟩ .int1 false (.cons (.bin ⟨164, 24, 164, 82⟩ false .add (.bin ⟨164, 24, 164, 60⟩ false .mul (.bin ⟨164, 25, 164, 46⟩ false .add (.bin ⟨164, 25, 164, 42⟩ false .mod (.var ⟨164, 25, 164, 29⟩ 2) (.cst ⟨164, 32, 164, 42⟩ 0 (.int 2147483647))) (.cst ⟨164, 45, 164, 46⟩ 0 (.int 3))) (.cst ⟨164, 50, 164, 60⟩ 0 (.int 1597334677))) (.bin ⟨164, 63, 164, 82⟩ false .mul (.bin ⟨164, 64, 164, 69⟩ false .add (.var ⟨164, 64, 164, 65⟩ 6) (.cst ⟨164, 68, 164, 69⟩ 0 (.int 1))) (.cst ⟨164, 73, 164, 82⟩ 0 (.int 805459861)))) .nil)) (.cst ⟨164, 86, 164, 96⟩ 0 (.int 2147483647)))) (.cons (.asg ⟨165, 12, 165, 67⟩ (.name ⟨165, 12, 165, 17⟩ 7) (.bin ⟨165, 20, 165, 67⟩ false .mod (.bi ⟨165, 20, 165, 54⟩ ⟨165, 20, 165, 23⟩ .int1 false (.cons (.bin ⟨165, 24, 165, 53⟩ false .add (.bin ⟨165, 24, 165, 49⟩ false .add (.bin ⟨165, 24, 165, 37⟩ false .mul (.var ⟨165, 24, 165, 29⟩ 7) (.var ⟨165, 32, 165, 37⟩ 7)) (.bin ⟨165, 40, 165, 49⟩ false .mul (.cst ⟨165, 40, 165, 45⟩ 0 (.int 48271)) (.var ⟨165, 48, 165, 49⟩ 6))) (.cst ⟨165, 52, 165, 53⟩ 0 (.int 7))) .nil)) (.cst ⟨165, 57, 165, 67⟩ 0 (.int 2147483629)))) (.cons (.asg ⟨166, 12, 166, 75⟩ (.name ⟨166, 12, 166, 17⟩ 7) (.bin ⟨166, 20, 166, 75⟩ false .mod (.bi ⟨166, 20, 166, 62⟩ ⟨166, 20, 166, 23⟩ .int1 false (.cons (.bin ⟨166, 24, 166, 61⟩ false .add (.bin ⟨166, 24, 166, 57⟩ false .add (.bin ⟨166, 24, 166, 53⟩ false .add (.bin ⟨166, 24, 166, 37⟩ false .mul (.var ⟨166, 24, 166, 29⟩ 7) (.var ⟨166, 32, 166, 37⟩ 7)) (.bin ⟨166, 40, 166, 53⟩ false .mul (.cst ⟨166, 40, 166, 45⟩ 0 (.int 40692)) (.var ⟨166, 48, 166, 53⟩ 7))) (.var ⟨166, 56, 166, 57⟩ 6)) (.cst ⟨166, 60, 166, 61⟩ 0 (.int 3))) .nil)) (.cst ⟨166, 65, 166, 75⟩ 0 (.int 2147483587)))) (.cons (.expr ⟨167, 12, 167, 44⟩ (.bm ⟨167, 12, 167, 44⟩ ⟨167, 12, 167, 24⟩ .append false (.var ⟨167, 12, 167, 17⟩ 5) (.cons (.bin ⟨167, 25, 167, 43⟩ false .mod (.bin ⟨167, 25, 167, 36⟩ false .fdiv (.var ⟨167, 25, 167, 30⟩ 7) (.cst ⟨167, 34, 167, 36⟩ 0 (.int 16))) (.cst ⟨167, 39, 167, 43⟩ 0 (.int 1000))) .nil))) .nil))))) .nil)
def f6 : Fn := ⟨2, 8, [], b6, true⟩
/-- _law_gcd -/
def n7 : List Str := (["a", "b", "k", "rest"] : List (Str))
def p7 : List Str := (["a", "b"] : List (Str))
def b7 : Ss := (.cons (.asg ⟨170, 4, 170, 14⟩ (.name ⟨170, 4, 170, 5⟩ 0) (.bi ⟨170, 8, 170, 14⟩ ⟨170, 8, 170, 11⟩ .abs false (.cons (.var ⟨170, 12, 170, 13⟩ 0) .nil))) (.cons (.asg ⟨171, 4, 171, 14⟩ (.name ⟨171, 4, 171, 5⟩ 1) (.bi ⟨171, 8, 171, 14⟩ ⟨171, 8, 171, 11⟩ .abs false (.cons (.var ⟨171, 12, 171, 13⟩ 1) .nil))) (.cons (.for_ ⟨172, 4, 177, 16⟩ (.name ⟨172, 8, 172, 9⟩ 2) (.rng1 ⟨172, 13, 172, 24⟩ ⟨172, 13, 172, 18⟩ (.cst ⟨172, 19, 172, 23⟩ 0 (.int 9000))) (.cons (.if_ ⟨173, 8, 174, 20⟩ (.cmp ⟨173, 11, 173, 17⟩ .eq (.var ⟨173, 11, 173, 12⟩ 1) (.cst ⟨173, 16, 173, 17⟩ 0 (.int 0))) (.cons (.ret ⟨174, 12, 174, 20⟩ (.var ⟨174, 19, 174, 20⟩ 0)) .nil) .nil) (.cons (.asg ⟨175, 8, 175, 25⟩ (.name ⟨175, 8, 175, 12⟩ 3) (.bin ⟨175, 15, 175, 25⟩ false .mod (.bi ⟨175, 15, 175, 21⟩ ⟨175, 15, 175, 18⟩ .int1 false (.cons (.var ⟨175, 19, 175, 20⟩ 0) .nil)) (.var ⟨175, 24, 175, 25⟩ 1))) (.cons (.asg ⟨176, 8, 176, 13⟩ (.name ⟨176, 8, 176, 9⟩ 0) (.var ⟨176, 12, 176, 13⟩ 1)) (.cons (.asg ⟨177, 8, 177, 16⟩ (.name ⟨177, 8, 177, 9⟩ 1) (.var ⟨177, 12, 177, 16⟩ 3)) .nil))))) (.cons (.ret ⟨178, 4, 178, 12⟩ (.cst ⟨178, 11, 178, 12⟩ 0 (.int 1))) .nil))))
def lt7_0 : Tg := (.name ⟨172, 8, 172, 9⟩ 2)
def lb7_0 : Ss := (.cons (.if_ ⟨173, 8, 174, 20⟩ (.cmp ⟨173, 11, 173, 17⟩ .eq (.var ⟨173, 11, 173, 12⟩ 1) (.cst ⟨173, 16, 173, 17⟩ 0 (.int 0))) (.cons (.ret ⟨174, 12, 174, 20⟩ (.var ⟨174, 19, 174, 20⟩ 0)) .nil) .nil) (.cons (.asg ⟨175, 8, 175, 25⟩ (.name ⟨175, 8, 175, 12⟩ 3) (.bin ⟨175, 15, 175, 25⟩ false .mod (.bi ⟨175, 15, 175, 21⟩ ⟨175, 15, 175, 18⟩ .int1 false (.cons (.var ⟨175, 19, 175, 20⟩ 0) .nil)) (.var ⟨175, 24, 175, 25⟩ 1))) (.cons (.asg ⟨176, 8, 176, 13⟩ (.name ⟨176, 8, 176, 9⟩ 0) (.var ⟨176, 12, 176, 13⟩ 1)) (.cons (.asg ⟨177, 8, 177, 16⟩ (.name ⟨177, 8, 177, 9⟩ 1) (.var ⟨177, 12, 177, 16⟩ 3)) .nil))))
def f7 : Fn := ⟨2, 4, [], b7, true⟩
/-- _law_ratio -/
def n8 : List Str := (["top", "bottom", "part"] : List (Str))
def p8 : List Str := (["top", "bottom"] : List (Str))
def b8 : Ss := (.cons (.asg ⟨180, 4, 180, 40⟩ (.name ⟨180, 4, 180, 8⟩ 2) (.bi ⟨180, 11, 180, 40⟩ ⟨180, 11, 180, 14⟩ .max2 false (.cons (.cst ⟨180, 15, 180, 16⟩ 0 (.int 1)) (.cons (.call ⟨180, 18, 180, 39⟩ ⟨180, 18, 180, 26⟩ 7 (.cons (.var ⟨180, 27, 180, 30⟩ 0) (.cons (.var ⟨180, 32, 180, 38⟩ 1) .nil))) .nil)))) (.cons (.if_ ⟨181, 4, 182, 20⟩ (.cmp ⟨181, 7, 181, 17⟩ .lt (.var ⟨181, 7, 181, 13⟩ 1) (.cst ⟨181, 16, 181, 17⟩ 0 (.int 0))) (.cons (.asg ⟨182, 8, 182, 20⟩ (.name ⟨182, 8, 182, 12⟩ 2) (.neg ⟨182, 15, 182, 20⟩ (.var ⟨182, 16, 182, 20⟩ 2))) .nil) .nil) (.cons (.ret ⟨183, 4, 183, 40⟩ (.tup ⟨183, 11, 183, 40⟩ 0 (.cons (.bin ⟨183, 12, 183, 23⟩ false .fdiv (.var ⟨183, 12, 183, 15⟩ 0) (.var ⟨183, 19, 183, 23⟩ 2)) (.cons (.bin ⟨183, 25, 183, 39⟩ false .fdiv (.var ⟨183, 25, 183, 31⟩ 1) (.var ⟨183, 35, 183, 39⟩ 2)) .nil)))) .nil)))
def f8 : Fn := ⟨2, 3, [], b8, true⟩
/-- _law_add -/
def n9 : List Str := (["a", "b"] : List (Str))
def p9 : List Str := (["a", "b"] : List (Str))
def b9 : Ss := (.cons (.ret ⟨185, 4, 185, 61⟩ (.call ⟨185, 11, 185, 61⟩ ⟨185, 11, 185, 21⟩ 8 (.cons (.bin ⟨185, 22, 185, 47⟩ false .add (.bin ⟨185, 22, 185, 33⟩ false .mul (.idx ⟨185, 22, 185, 26⟩ (.var ⟨185, 22, 185, 23⟩ 0) (.cst ⟨185, 24, 185, 25⟩ 0 (.int 0))) (.idx ⟨185, 29, 185, 33⟩ (.var ⟨185, 29, 185, 30⟩ 1) (.cst ⟨185, 31, 185, 32⟩ 0 (.int 1)))) (.bin ⟨185, 36, 185, 47⟩ false .mul (.idx ⟨185, 36, 185, 40⟩ (.var ⟨185, 36, 185, 37⟩ 1) (.cst ⟨185, 38, 185, 39⟩ 0 (.int 0))) (.idx ⟨185, 43, 185, 47⟩ (.var ⟨185, 43, 185, 44⟩ 0) (.cst ⟨185, 45, 185, 46⟩ 0 (.int 1))))) (.cons (.bin ⟨185, 49, 185, 60⟩ false .mul (.idx ⟨185, 49, 185, 53⟩ (.var ⟨185, 49, 185, 50⟩ 0) (.cst ⟨185, 51, 185, 52⟩ 0 (.int 1))) (.idx ⟨185, 56, 185, 60⟩ (.var ⟨185, 56, 185, 57⟩ 1) (.cst ⟨185, 58, 185, 59⟩ 0 (.int 1)))) .nil)))) .nil)
def f9 : Fn := ⟨2, 2, [], b9, true⟩
/-- _law_mul -/
def n10 : List Str := (["a", "b"] : List (Str))
def p10 : List Str := (["a", "b"] : List (Str))
def b10 : Ss := (.cons (.ret ⟨187, 4, 187, 47⟩ (.call ⟨187, 11, 187, 47⟩ ⟨187, 11, 187, 21⟩ 8 (.cons (.bin ⟨187, 22, 187, 33⟩ false .mul (.idx ⟨187, 22, 187, 26⟩ (.var ⟨187, 22, 187, 23⟩ 0) (.cst ⟨187, 24, 187, 25⟩ 0 (.int 0))) (.idx ⟨187, 29, 187, 33⟩ (.var ⟨187, 29, 187, 30⟩ 1) (.cst ⟨187, 31, 187, 32⟩ 0 (.int 0)))) (.cons (.bin ⟨187, 35, 187, 46⟩ false .mul (.idx ⟨187, 35, 187, 39⟩ (.var ⟨187, 35, 187, 36⟩ 0) (.cst ⟨187, 37, 187, 38⟩ 0 (.int 1))) (.idx ⟨187, 42, 187, 46⟩ (.var ⟨187, 42, 187, 43⟩ 1) (.cst ⟨187, 44, 187, 45⟩ 0 (.int 1)))) .nil)))) .nil)
def f10 : Fn := ⟨2, 2, [], b10, true⟩
/-- _law_below -/
def n11 : List Str := (["a", "b"] : List (Str))
def p11 : List Str := (["a", "b"] : List (Str))
def b11 : Ss := (.cons (.ret ⟨189, 4, 189, 36⟩ (.cmp ⟨189, 11, 189, 36⟩ .lt (.bin ⟨189, 11, 189, 22⟩ false .mul (.idx ⟨189, 11, 189, 15⟩ (.var ⟨189, 11, 189, 12⟩ 0) (.cst ⟨189, 13, 189, 14⟩ 0 (.int 0))) (.idx ⟨189, 18, 189, 22⟩ (.var ⟨189, 18, 189, 19⟩ 1) (.cst ⟨189, 20, 189, 21⟩ 0 (.int 1)))) (.bin ⟨189, 25, 189, 36⟩ false .mul (.idx ⟨189, 25, 189, 29⟩ (.var ⟨189, 25, 189, 26⟩ 1) (.cst ⟨189, 27, 189, 28⟩ 0 (.int 0))) (.idx ⟨189, 32, 189, 36⟩ (.var ⟨189, 32, 189, 33⟩ 0) (.cst ⟨189, 34, 189, 35⟩ 0 (.int 1)))))) .nil)
def f11 : Fn := ⟨2, 2, [], b11, true⟩
/-- _law_is_whole -/
def n12 : List Str := (["x"] : List (Str))
def p12 : List Str := (["x"] : List (Str))
def b12 : Ss := (.cons (.ret ⟨191, 4, 191, 59⟩ (.and ⟨191, 11, 191, 59⟩ (.cons (.isin ⟨191, 11, 191, 29⟩ ⟨191, 11, 191, 21⟩ (.var ⟨191, 22, 191, 23⟩ 0) ⟨191, 25, 191, 28⟩ .int) (.cons (.not ⟨191, 35, 191, 58⟩ (.isin ⟨191, 39, 191, 58⟩ ⟨191, 39, 191, 49⟩ (.var ⟨191, 50, 191, 51⟩ 0) ⟨191, 53, 191, 57⟩ .bool)) .nil)))) .nil)
def f12 : Fn := ⟨1, 1, [], b12, true⟩
/-- _law_is_ratio -/
def n13 : List Str := (["x"] : List (Str))
def p13 : List Str := (["x"] : List (Str))
def b13 : Ss := (.cons (.if_ ⟨193, 4, 194, 20⟩ (.or ⟨193, 7, 193, 104⟩ (.cons (.not ⟨193, 7, 193, 31⟩ (.isin ⟨193, 11, 193, 31⟩ ⟨193, 11, 193, 21⟩ (.var ⟨193, 22, 193, 23⟩ 0) ⟨193, 25, 193, 30⟩ .tuple)) (.cons (.cmp ⟨193, 35, 193, 46⟩ .ne (.bi ⟨193, 35, 193, 41⟩ ⟨193, 35, 193, 38⟩ .len false (.cons (.var ⟨193, 39, 193, 40⟩ 0) .nil)) (.cst ⟨193, 45, 193, 46⟩ 0 (.int 2))) (.cons (.not ⟨193, 51, 193, 74⟩ (.call ⟨193, 55, 193, 74⟩ ⟨193, 55, 193, 68⟩ 12 (.cons (.idx ⟨193, 69, 193, 73⟩ (.var ⟨193, 69, 193, 70⟩ 0) (.cst ⟨193, 71, 193, 72⟩ 0 (.int 0))) .nil))) (.cons (.not ⟨193, 80, 193, 103⟩ (.call ⟨193, 84, 193, 103⟩ ⟨193, 84, 193, 97⟩ 12 (.cons (.idx ⟨193, 98, 193, 102⟩ (.var ⟨193, 98, 193, 99⟩ 0) (.cst ⟨193, 100, 193, 101⟩ 0 (.int 1))) .nil))) .nil))))) (.cons (.ret ⟨194, 8, 194, 20⟩ (.cst ⟨194, 15, 194, 20⟩ 0 (.bl false))) .nil) .nil) (.cons (.ret ⟨195, 4, 195, 50⟩ (.and ⟨195, 11, 195, 50⟩ (.cons (.cmp ⟨195, 11, 195, 20⟩ .ge (.idx ⟨195, 11, 195, 15⟩ (.var ⟨195, 11, 195, 12⟩ 0) (.cst ⟨195, 13, 195, 14⟩ 0 (.int 1))) (.cst ⟨195, 19, 195, 20⟩ 0 (.int 1))) (.cons (.cmp ⟨195, 25, 195, 50⟩ .eq (.call ⟨195, 25, 195, 45⟩ ⟨195, 25, 195, 33⟩ 7 (.cons (.idx ⟨195, 34, 195, 38⟩ (.var ⟨195, 34, 195, 35⟩ 0) (.cst ⟨195, 36, 195, 37⟩ 0 (.int 0))) (.cons (.idx ⟨195, 40, 195, 44⟩ (.var ⟨195, 40, 195, 41⟩ 0) (.cst ⟨195, 42, 195, 43⟩ 0 (.int 1))) .nil))) (.cst ⟨195, 49, 195, 50⟩ 0 (.int 1))) .nil)))) .nil))
def f13 : Fn := ⟨1, 1, [], b13, true⟩
/-- _law_dot -/
def n14 : List Str := (["xs", "ys", "total", "k"] : List (Str))
def p14 : List Str := (["xs", "ys"] : List (Str))
def b14 : Ss := (.cons (.asg ⟨197, 4, 197, 18⟩ (.name ⟨197, 4, 197, 9⟩ 2) (.tup ⟨197, 12, 197, 18⟩ 0 (.cons (.cst ⟨197, 13, 197, 14⟩ 0 (.int 0)) (.cons (.cst ⟨197, 16, 197, 17⟩ 0 (.int 1)) .nil)))) (.cons (.for_ ⟨198, 4, 199, 55⟩ (.name ⟨198, 8, 198, 9⟩ 3) (.rng1 ⟨198, 13, 198, 27⟩ ⟨198, 13, 198, 18⟩ (.bi ⟨198, 19, 198, 26⟩ ⟨198, 19, 198, 22⟩ .len false (.cons (.var ⟨198, 23, 198, 25⟩ 0) .nil))) (.cons (.asg ⟨199, 8, 199, 55⟩ (.name ⟨199, 8, 199, 13⟩ 2) (.call ⟨199, 16, 199, 55⟩ ⟨199, 16, 199, 24⟩ 9 (.cons (.var ⟨199, 25, 199, 30⟩ 2) (.cons (.call ⟨199, 32, 199, 54⟩ ⟨199, 32, 199, 40⟩ 10 (.cons (.idx ⟨199, 41, 199, 46⟩ (.var ⟨199, 41, 199, 43⟩ 0) (.var ⟨199, 44, 199, 45⟩ 3)) (.cons (.idx ⟨199, 48, 199, 53⟩ (.var ⟨199, 48, 199, 50⟩ 1) (.var ⟨199, 51, 199, 52⟩ 3)) .nil))) .nil)))) .nil)) (.cons (.ret ⟨200, 4, 200, 16⟩ (.var ⟨200, 11, 200, 16⟩ 2)) .nil)))
def lt14_0 : Tg := (.name ⟨198, 8, 198, 9⟩ 3)
def lb14_0 : Ss := (.cons (.asg ⟨199, 8, 199, 55⟩ (.name ⟨199, 8, 199, 13⟩ 2) (.call ⟨199, 16, 199, 55⟩ ⟨199, 16, 199, 24⟩ 9 (.cons (.var ⟨199, 25, 199, 30⟩ 2) (.cons (.call ⟨199, 32, 199, 54⟩ ⟨199, 32, 199, 40⟩ 10 (.cons (.idx ⟨199, 41, 199, 46⟩ (.var ⟨199, 41, 199, 43⟩ 0) (.var ⟨199, 44, 199, 45⟩ 3)) (.cons (.idx ⟨199, 48, 199, 53⟩ (.var ⟨199, 48, 199, 50⟩ 1) (.var ⟨199, 51, 199, 52⟩ 3)) .nil))) .nil)))) .nil)
def f14 : Fn := ⟨2, 4, [], b14, true⟩
/-- _law_ratios -/
def n15 : List Str := (["value", "size", "entry"] : List (Str))
def p15 : List Str := (["value", "size"] : List (Str))
def b15 : Ss := (.cons (.if_ ⟨202, 4, 203, 20⟩ (.or ⟨202, 7, 202, 57⟩ (.cons (.not ⟨202, 7, 202, 35⟩ (.isin ⟨202, 11, 202, 35⟩ ⟨202, 11, 202, 21⟩ (.var ⟨202, 22, 202, 27⟩ 0) ⟨202, 29, 202, 34⟩ .tuple)) (.cons (.cmp ⟨202, 39, 202, 57⟩ .ne (.bi ⟨202, 39, 202, 49⟩ ⟨202, 39, 202, 42⟩ .len false (.cons (.var ⟨202, 43, 202, 48⟩ 0) .nil)) (.var ⟨202, 53, 202, 57⟩ 1)) .nil))) (.cons (.ret ⟨203, 8, 203, 20⟩ (.cst ⟨203, 15, 203, 20⟩ 0 (.bl false))) .nil) .nil) (.cons (.for_ ⟨204, 4, 206, 24⟩ (.name ⟨204, 8, 204, 13⟩ 2) (.of (.var ⟨204, 17, 204, 22⟩ 0)) (.cons (.if_ ⟨205, 8, 206, 24⟩ (.not ⟨205, 11, 205, 35⟩ (.call ⟨205, 15, 205, 35⟩ ⟨205, 15, 205, 28⟩ 13 (.cons (.var ⟨205, 29, 205, 34⟩ 2) .nil))) (.cons (.ret ⟨206, 12, 206, 24⟩ (.cst ⟨206, 19, 206, 24⟩ 0 (.bl false))) .nil) .nil) .nil)) (.cons (.ret ⟨207, 4, 207, 15⟩ (.cst ⟨207, 11, 207, 15⟩ 0 (.bl true))) .nil)))
def lt15_0 : Tg := (.name ⟨204, 8, 204, 13⟩ 2)
def lb15_0 : Ss := (.cons (.if_ ⟨205, 8, 206, 24⟩ (.not ⟨205, 11, 205, 35⟩ (.call ⟨205, 15, 205, 35⟩ ⟨205, 15, 205, 28⟩ 13 (.cons (.var ⟨205, 29, 205, 34⟩ 2) .nil))) (.cons (.ret ⟨206, 12, 206, 24⟩ (.cst ⟨206, 19, 206, 24⟩ 0 (.bl false))) .nil) .nil) .nil)
def f15 : Fn := ⟨2, 3, [], b15, true⟩
/-- _law_sums -/
def n16 : List Str := (["rows", "prices", "many", "found", "i", "j", "k"] : List (Str))
def p16 : List Str := (["rows", "prices", "many"] : List (Str))
def b16 : Ss := (.cons (.asg ⟨209, 4, 209, 41⟩ (.name ⟨209, 4, 209, 9⟩ 3) (.comp ⟨209, 12, 209, 41⟩ true sc3 [("k", 6)] (.tup ⟨209, 13, 209, 19⟩ 0 (.cons (.cst ⟨209, 14, 209, 15⟩ 0 (.int 0)) (.cons (.cst ⟨209, 17, 209, 18⟩ 0 (.int 1)) .nil))) (.name ⟨209, 24, 209, 25⟩ 6) (.rng1 ⟨209, 29, 209, 40⟩ ⟨209, 29, 209, 34⟩ (.var ⟨209, 35, 209, 39⟩ 2)) .nil)) (.cons (.for_ ⟨210, 4, 212, 77⟩ (.name ⟨210, 8, 210, 9⟩ 4) (.rng1 ⟨210, 13, 210, 29⟩ ⟨210, 13, 210, 18⟩ (.bi ⟨210, 19, 210, 28⟩ ⟨210, 19, 210, 22⟩ .len false (.cons (.var ⟨210, 23, 210, 27⟩ 0) .nil))) (.cons (.for_ ⟨211, 8, 212, 77⟩ (.name ⟨211, 12, 211, 13⟩ 5) (.rng1 ⟨211, 17, 211, 28⟩ ⟨211, 17, 211, 22⟩ (.var ⟨211, 23, 211, 27⟩ 2)) (.cons (.asg ⟨212, 12, 212, 77⟩ (.sub ⟨212, 12, 212, 20⟩ (.var ⟨212, 12, 212, 17⟩ 3) (.var ⟨212, 18, 212, 19⟩ 5)) (.call ⟨212, 23, 212, 77⟩ ⟨212, 23, 212, 31⟩ 9 (.cons (.idx ⟨212, 32, 212, 40⟩ (.var ⟨212, 32, 212, 37⟩ 3) (.var ⟨212, 38, 212, 39⟩ 5)) (.cons (.call ⟨212, 42, 212, 76⟩ ⟨212, 42, 212, 50⟩ 10 (.cons (.idx ⟨212, 51, 212, 60⟩ (.var ⟨212, 51, 212, 57⟩ 1) (.var ⟨212, 58, 212, 59⟩ 4)) (.cons (.idx ⟨212, 62, 212, 75⟩ (.idx ⟨212, 62, 212, 72⟩ (.idx ⟨212, 62, 212, 69⟩ (.var ⟨212, 62, 212, 66⟩ 0) (.var ⟨212, 67, 212, 68⟩ 4)) (.cst ⟨212, 70, 212, 71⟩ 0 (.int 0))) (.var ⟨212, 73, 212, 74⟩ 5)) .nil))) .nil)))) .nil)) .nil)) (.cons (.ret ⟨213, 4, 213, 16⟩ (.var ⟨213, 11, 213, 16⟩ 3)) .nil)))
def ce16_0 : E := (.tup ⟨209, 13, 209, 19⟩ 0 (.cons (.cst ⟨209, 14, 209, 15⟩ 0 (.int 0)) (.cons (.cst ⟨209, 17, 209, 18⟩ 0 (.int 1)) .nil)))
def ct16_0 : Tg := (.name ⟨209, 24, 209, 25⟩ 6)
def ci16_0 : Es := .nil
def lt16_0 : Tg := (.name ⟨211, 12, 211, 13⟩ 5)
def lb16_0 : Ss := (.cons (.asg ⟨212, 12, 212, 77⟩ (.sub ⟨212, 12, 212, 20⟩ (.var ⟨212, 12, 212, 17⟩ 3) (.var ⟨212, 18, 212, 19⟩ 5)) (.call ⟨212, 23, 212, 77⟩ ⟨212, 23, 212, 31⟩ 9 (.cons (.idx ⟨212, 32, 212, 40⟩ (.var ⟨212, 32, 212, 37⟩ 3) (.var ⟨212, 38, 212, 39⟩ 5)) (.cons (.call ⟨212, 42, 212, 76⟩ ⟨212, 42, 212, 50⟩ 10 (.cons (.idx ⟨212, 51, 212, 60⟩ (.var ⟨212, 51, 212, 57⟩ 1) (.var ⟨212, 58, 212, 59⟩ 4)) (.cons (.idx ⟨212, 62, 212, 75⟩ (.idx ⟨212, 62, 212, 72⟩ (.idx ⟨212, 62, 212, 69⟩ (.var ⟨212, 62, 212, 66⟩ 0) (.var ⟨212, 67, 212, 68⟩ 4)) (.cst ⟨212, 70, 212, 71⟩ 0 (.int 0))) (.var ⟨212, 73, 212, 74⟩ 5)) .nil))) .nil)))) .nil)
def lt16_1 : Tg := (.name ⟨210, 8, 210, 9⟩ 4)
def lb16_1 : Ss := (.cons (.for_ ⟨211, 8, 212, 77⟩ (.name ⟨211, 12, 211, 13⟩ 5) (.rng1 ⟨211, 17, 211, 28⟩ ⟨211, 17, 211, 22⟩ (.var ⟨211, 23, 211, 27⟩ 2)) (.cons (.asg ⟨212, 12, 212, 77⟩ (.sub ⟨212, 12, 212, 20⟩ (.var ⟨212, 12, 212, 17⟩ 3) (.var ⟨212, 18, 212, 19⟩ 5)) (.call ⟨212, 23, 212, 77⟩ ⟨212, 23, 212, 31⟩ 9 (.cons (.idx ⟨212, 32, 212, 40⟩ (.var ⟨212, 32, 212, 37⟩ 3) (.var ⟨212, 38, 212, 39⟩ 5)) (.cons (.call ⟨212, 42, 212, 76⟩ ⟨212, 42, 212, 50⟩ 10 (.cons (.idx ⟨212, 51, 212, 60⟩ (.var ⟨212, 51, 212, 57⟩ 1) (.var ⟨212, 58, 212, 59⟩ 4)) (.cons (.idx ⟨212, 62, 212, 75⟩ (.idx ⟨212, 62, 212, 72⟩ (.idx ⟨212, 62, 212, 69⟩ (.var ⟨212, 62, 212, 66⟩ 0) (.var ⟨212, 67, 212, 68⟩ 4)) (.cst ⟨212, 70, 212, 71⟩ 0 (.int 0))) (.var ⟨212, 73, 212, 74⟩ 5)) .nil))) .nil)))) .nil)) .nil)
def f16 : Fn := ⟨3, 7, [], b16, false⟩
/-- _law_sound_entries -/
def n17 : List Str := (["rows", "entries", "flat", "entry", "line", "bound", "due"] : List (Str))
def p17 : List Str := (["rows", "entries", "flat"] : List (Str))
def b17 : Ss := (.cons (.for_ ⟨215, 4, 217, 24⟩ (.name ⟨215, 8, 215, 13⟩ 3) (.of (.var ⟨215, 17, 215, 24⟩ 1)) (.cons (.if_ ⟨216, 8, 217, 24⟩ (.cmp ⟨216, 11, 216, 23⟩ .lt (.idx ⟨216, 11, 216, 19⟩ (.var ⟨216, 11, 216, 16⟩ 3) (.cst ⟨216, 17, 216, 18⟩ 0 (.int 0))) (.cst ⟨216, 22, 216, 23⟩ 0 (.int 0))) (.cons (.ret ⟨217, 12, 217, 24⟩ (.cst ⟨217, 19, 217, 24⟩ 0 (.bl false))) .nil) .nil) .nil)) (.cons (.for_ ⟨218, 4, 223, 24⟩ (.tup ⟨218, 8, 218, 19⟩ 0 [(⟨218, 8, 218, 12⟩, 4), (⟨218, 14, 218, 19⟩, 5)]) (.of (.var ⟨218, 23, 218, 27⟩ 0)) (.cons (.asg ⟨219, 8, 219, 19⟩ (.name ⟨219, 8, 219, 11⟩ 6) (.var ⟨219, 14, 219, 19⟩ 5)) (.cons (.if_ ⟨220, 8, 221, 24⟩ (.var ⟨220, 11, 220, 15⟩ 2) (.cons (.asg ⟨221, 12, 221, 24⟩ (.name ⟨221, 12, 221, 15⟩ 6) (.tup ⟨221, 18, 221, 24⟩ 0 (.cons (.cst ⟨221, 19, 221, 20⟩ 0 (.int 0)) (.cons (.cst ⟨221, 22, 221, 23⟩ 0 (.int 1)) .nil)))) .nil) .nil) (.cons (.if_ ⟨222, 8, 223, 24⟩ (.call ⟨222, 11, 222, 51⟩ ⟨222, 11, 222, 21⟩ 11 (.cons (.call ⟨222, 22, 222, 45⟩ ⟨222, 22, 222, 30⟩ 14 (.cons (.var ⟨222, 31, 222, 35⟩ 4) (.cons (.var ⟨222, 37, 222, 44⟩ 1) .nil))) (.cons (.var ⟨222, 47, 222, 50⟩ 6) .nil))) (.cons (.ret ⟨223, 12, 223, 24⟩ (.cst ⟨223, 19, 223, 24⟩ 0 (.bl false))) .nil) .nil) .nil)))) (.cons (.ret ⟨224, 4, 224, 15⟩ (.cst ⟨224, 11, 224, 15⟩ 0 (.bl true))) .nil)))
def lt17_0 : Tg := (.name ⟨215, 8, 215, 13⟩ 3)
def lb17_0 : Ss := (.cons (.if_ ⟨216, 8, 217, 24⟩ (.cmp ⟨216, 11, 216, 23⟩ .lt (.idx ⟨216, 11, 216, 19⟩ (.var ⟨216, 11, 216, 16⟩ 3) (.cst ⟨216, 17, 216, 18⟩ 0 (.int 0))) (.cst ⟨216, 22, 216, 23⟩ 0 (.int 0))) (.cons (.ret ⟨217, 12, 217, 24⟩ (.cst ⟨217, 19, 217, 24⟩ 0 (.bl false))) .nil) .nil) .nil)
def lt17_1 : Tg := (.tup ⟨218, 8, 218, 19⟩ 0 [(⟨218, 8, 218, 12⟩, 4), (⟨218, 14, 218, 19⟩, 5)])
def lb17_1 : Ss := (.cons (.asg ⟨219, 8, 219, 19⟩ (.name ⟨219, 8, 219, 11⟩ 6) (.var ⟨219, 14, 219, 19⟩ 5)) (.cons (.if_ ⟨220, 8, 221, 24⟩ (.var ⟨220, 11, 220, 15⟩ 2) (.cons (.asg ⟨221, 12, 221, 24⟩ (.name ⟨221, 12, 221, 15⟩ 6) (.tup ⟨221, 18, 221, 24⟩ 0 (.cons (.cst ⟨221, 19, 221, 20⟩ 0 (.int 0)) (.cons (.cst ⟨221, 22, 221, 23⟩ 0 (.int 1)) .nil)))) .nil) .nil) (.cons (.if_ ⟨222, 8, 223, 24⟩ (.call ⟨222, 11, 222, 51⟩ ⟨222, 11, 222, 21⟩ 11 (.cons (.call ⟨222, 22, 222, 45⟩ ⟨222, 22, 222, 30⟩ 14 (.cons (.var ⟨222, 31, 222, 35⟩ 4) (.cons (.var ⟨222, 37, 222, 44⟩ 1) .nil))) (.cons (.var ⟨222, 47, 222, 50⟩ 6) .nil))) (.cons (.ret ⟨223, 12, 223, 24⟩ (.cst ⟨223, 19, 223, 24⟩ 0 (.bl false))) .nil) .nil) .nil)))
def f17 : Fn := ⟨3, 7, [], b17, true⟩
/-- _law_sound_prices -/
def n18 : List Str := (["costs", "rows", "prices", "price", "sums", "j"] : List (Str))
def p18 : List Str := (["costs", "rows", "prices"] : List (Str))
def b18 : Ss := (.cons (.for_ ⟨226, 4, 228, 24⟩ (.name ⟨226, 8, 226, 13⟩ 3) (.of (.var ⟨226, 17, 226, 23⟩ 2)) (.cons (.if_ ⟨227, 8, 228, 24⟩ (.cmp ⟨227, 11, 227, 23⟩ .lt (.idx ⟨227, 11, 227, 19⟩ (.var ⟨227, 11, 227, 16⟩ 3) (.cst ⟨227, 17, 227, 18⟩ 0 (.int 0))) (.cst ⟨227, 22, 227, 23⟩ 0 (.int 0))) (.cons (.ret ⟨228, 12, 228, 24⟩ (.cst ⟨228, 19, 228, 24⟩ 0 (.bl false))) .nil) .nil) .nil)) (.cons (.asg ⟨229, 4, 229, 46⟩ (.name ⟨229, 4, 229, 8⟩ 4) (.call ⟨229, 11, 229, 46⟩ ⟨229, 11, 229, 20⟩ 16 (.cons (.var ⟨229, 21, 229, 25⟩ 1) (.cons (.var ⟨229, 27, 229, 33⟩ 2) (.cons (.bi ⟨229, 35, 229, 45⟩ ⟨229, 35, 229, 38⟩ .len false (.cons (.var ⟨229, 39, 229, 44⟩ 0) .nil)) .nil))))) (.cons (.for_ ⟨230, 4, 232, 24⟩ (.name ⟨230, 8, 230, 9⟩ 5) (.rng1 ⟨230, 13, 230, 30⟩ ⟨230, 13, 230, 18⟩ (.bi ⟨230, 19, 230, 29⟩ ⟨230, 19, 230, 22⟩ .len false (.cons (.var ⟨230, 23, 230, 28⟩ 0) .nil))) (.cons (.if_ ⟨231, 8, 232, 24⟩ (.call ⟨231, 11, 231, 40⟩ ⟨231, 11, 231, 21⟩ 11 (.cons (.idx ⟨231, 22, 231, 30⟩ (.var ⟨231, 22, 231, 27⟩ 0) (.var ⟨231, 28, 231, 29⟩ 5)) (.cons (.idx ⟨231, 32, 231, 39⟩ (.var ⟨231, 32, 231, 36⟩ 4) (.var ⟨231, 37, 231, 38⟩ 5)) .nil))) (.cons (.ret ⟨232, 12, 232, 24⟩ (.cst ⟨232, 19, 232, 24⟩ 0 (.bl false))) .nil) .nil) .nil)) (.cons (.ret ⟨233, 4, 233, 15⟩ (.cst ⟨233, 11, 233, 15⟩ 0 (.bl true))) .nil))))
def lt18_0 : Tg := (.name ⟨226, 8, 226, 13⟩ 3)
def lb18_0 : Ss := (.cons (.if_ ⟨227, 8, 228, 24⟩ (.cmp ⟨227, 11, 227, 23⟩ .lt (.idx ⟨227, 11, 227, 19⟩ (.var ⟨227, 11, 227, 16⟩ 3) (.cst ⟨227, 17, 227, 18⟩ 0 (.int 0))) (.cst ⟨227, 22, 227, 23⟩ 0 (.int 0))) (.cons (.ret ⟨228, 12, 228, 24⟩ (.cst ⟨228, 19, 228, 24⟩ 0 (.bl false))) .nil) .nil) .nil)
def lt18_1 : Tg := (.name ⟨230, 8, 230, 9⟩ 5)
def lb18_1 : Ss := (.cons (.if_ ⟨231, 8, 232, 24⟩ (.call ⟨231, 11, 231, 40⟩ ⟨231, 11, 231, 21⟩ 11 (.cons (.idx ⟨231, 22, 231, 30⟩ (.var ⟨231, 22, 231, 27⟩ 0) (.var ⟨231, 28, 231, 29⟩ 5)) (.cons (.idx ⟨231, 32, 231, 39⟩ (.var ⟨231, 32, 231, 36⟩ 4) (.var ⟨231, 37, 231, 38⟩ 5)) .nil))) (.cons (.ret ⟨232, 12, 232, 24⟩ (.cst ⟨232, 19, 232, 24⟩ 0 (.bl false))) .nil) .nil) .nil)
def f18 : Fn := ⟨3, 6, [], b18, true⟩
/-- _law_shown -/
def n19 : List Str := (["costs", "rows", "answer", "bounds", "zeros", "row", "cost"] : List (Str))
def p19 : List Str := (["costs", "rows", "answer"] : List (Str))
def b19 : Ss := (.cons (.if_ ⟨235, 4, 236, 20⟩ (.or ⟨235, 7, 235, 91⟩ (.cons (.not ⟨235, 7, 235, 36⟩ (.isin ⟨235, 11, 235, 36⟩ ⟨235, 11, 235, 21⟩ (.var ⟨235, 22, 235, 28⟩ 2) ⟨235, 30, 235, 35⟩ .tuple)) (.cons (.cmp ⟨235, 40, 235, 55⟩ .lt (.bi ⟨235, 40, 235, 51⟩ ⟨235, 40, 235, 43⟩ .len false (.cons (.var ⟨235, 44, 235, 50⟩ 2) .nil)) (.cst ⟨235, 54, 235, 55⟩ 0 (.int 2))) (.cons (.not ⟨235, 60, 235, 90⟩ (.isin ⟨235, 64, 235, 90⟩ ⟨235, 64, 235, 74⟩ (.idx ⟨235, 75, 235, 84⟩ (.var ⟨235, 75, 235, 81⟩ 2) (.cst ⟨235, 82, 235, 83⟩ 0 (.int 0))) ⟨235, 86, 235, 89⟩ .str)) .nil)))) (.cons (.ret ⟨236, 8, 236, 20⟩ (.cst ⟨236, 15, 236, 20⟩ 0 (.bl false))) .nil) .nil) (.cons (.asg ⟨237, 4, 237, 37⟩ (.name ⟨237, 4, 237, 10⟩ 3) (.comp ⟨237, 13, 237, 37⟩ false sc4 [("row", 5)] (.idx ⟨237, 14, 237, 20⟩ (.var ⟨237, 14, 237, 17⟩ 5) (.cst ⟨237, 18, 237, 19⟩ 0 (.int 1))) (.name ⟨237, 25, 237, 28⟩ 5) (.of (.var ⟨237, 32, 237, 36⟩ 1)) .nil)) (.cons (.asg ⟨238, 4, 238, 38⟩ (.name ⟨238, 4, 238, 9⟩ 4) (.comp ⟨238, 12, 238, 38⟩ false sc5 [("cost", 6)] (.tup ⟨238, 13, 238, 19⟩ 0 (.cons (.cst ⟨238, 14, 238, 15⟩ 0 (.int 0)) (.cons (.cst ⟨238, 17, 238, 18⟩ 0 (.int 1)) .nil))) (.name ⟨238, 24, 238, 28⟩ 6) (.of (.var ⟨238, 32, 238, 37⟩ 0)) .nil)) (.cons (.if_ ⟨239, 4, 246, 99⟩ (.and ⟨239, 7, 239, 47⟩ (.cons (.cmp ⟨239, 7, 239, 26⟩ .eq (.idx ⟨239, 7, 239, 16⟩ (.var ⟨239, 7, 239, 13⟩ 2) (.cst ⟨239, 14, 239, 15⟩ 0 (.int 0))) (.cst ⟨239, 20, 239, 26⟩ 0 (.str "best"))) (.cons (.cmp ⟨239, 31, 239, 47⟩ .eq (.bi ⟨239, 31, 239, 42⟩ ⟨239, 31, 239, 34⟩ .len false (.cons (.var ⟨239, 35, 239, 41⟩ 2) .nil)) (.cst ⟨239, 46, 239, 47⟩ 0 (.int 4))) .nil))) (.cons (.if_ ⟨240, 8, 241, 24⟩ (.or ⟨240, 11, 240, 81⟩ (.cons (.not ⟨240, 11, 240, 39⟩ (.call ⟨240, 15, 240, 39⟩ ⟨240, 15, 240, 28⟩ 13 (.cons (.idx ⟨240, 29, 240, 38⟩ (.var ⟨240, 29, 240, 35⟩ 2) (.cst ⟨240, 36, 240, 37⟩ 0 (.int 1))) .nil))) (.cons (.not ⟨240, 43, 240, 81⟩ (.call ⟨240, 47, 240, 81⟩ ⟨240, 47, 240, 58⟩ 15 (.cons (.idx ⟨240, 59, 240, 68⟩ (.var ⟨240, 59, 240, 65⟩ 2) (.cst ⟨240, 66, 240, 67⟩ 0 (.int 2))) (.cons (.bi ⟨240, 70, 240, 80⟩ ⟨240, 70, 240, 73⟩ .len false (.cons (.var ⟨240, 74, 240, 79⟩ 0) .nil)) .nil)))) .nil))) (.cons (.ret ⟨241, 12, 241, 24⟩ (.cst ⟨241, 19, 241, 24⟩ 0 (.bl false))) .nil) .nil) (.cons (.if_ ⟨242, 8, 243, 24⟩ (.or ⟨242, 11, 242, 98⟩ (.cons (.not ⟨242, 11, 242, 48⟩ (.call ⟨242, 15, 242, 48⟩ ⟨242, 15, 242, 26⟩ 15 (.cons (.idx ⟨242, 27, 242, 36⟩ (.var ⟨242, 27, 242, 33⟩ 2) (.cst ⟨242, 34, 242, 35⟩ 0 (.int 3))) (.cons (.bi ⟨242, 38, 242, 47⟩ ⟨242, 38, 242, 41⟩ .len false (.cons (.var ⟨242, 42, 242, 46⟩ 1) .nil)) .nil)))) (.cons (.not ⟨242, 52, 242, 98⟩ (.call ⟨242, 56, 242, 98⟩ ⟨242, 56, 242, 74⟩ 17 (.cons (.var ⟨242, 75, 242, 79⟩ 1) (.cons (.idx ⟨242, 81, 242, 90⟩ (.var ⟨242, 81, 242, 87⟩ 2) (.cst ⟨242, 88, 242, 89⟩ 0 (.int 2))) (.cons (.cst ⟨242, 92, 242, 97⟩ 0 (.bl false)) .nil))))) .nil))) (.cons (.ret ⟨243, 12, 243, 24⟩ (.cst ⟨243, 19, 243, 24⟩ 0 (.bl false))) .nil) .nil) (.cons (.if_ ⟨244, 8, 245, 24⟩ (.not ⟨244, 11, 244, 56⟩ (.call ⟨244, 15, 244, 56⟩ ⟨244, 15, 244, 32⟩ 18 (.cons (.var ⟨244, 33, 244, 38⟩ 0) (.cons (.var ⟨244, 40, 244, 44⟩ 1) (.cons (.idx ⟨244, 46, 244, 55⟩ (.var ⟨244, 46, 244, 52⟩ 2) (.cst ⟨244, 53, 244, 54⟩ 0 (.int 3))) .nil))))) (.cons (.ret ⟨245, 12, 245, 24⟩ (.cst ⟨245, 19, 245, 24⟩ 0 (.bl false))) .nil) .nil) (.cons (.ret ⟨246, 8, 246, 99⟩ (.and ⟨246, 15, 246, 99⟩ (.cons (.cmp ⟨246, 15, 246, 54⟩ .eq (.call ⟨246, 15, 246, 41⟩ ⟨246, 15, 246, 23⟩ 14 (.cons (.var ⟨246, 24, 246, 29⟩ 0) (.cons (.idx ⟨246, 31, 246, 40⟩ (.var ⟨246, 31, 246, 37⟩ 2) (.cst ⟨246, 38, 246, 39⟩ 0 (.int 2))) .nil))) (.idx ⟨246, 45, 246, 54⟩ (.var ⟨246, 45, 246, 51⟩ 2) (.cst ⟨246, 52, 246, 53⟩ 0 (.int 1)))) (.cons (.cmp ⟨246, 59, 246, 99⟩ .eq (.call ⟨246, 59, 246, 86⟩ ⟨246, 59, 246, 67⟩ 14 (.cons (.idx ⟨246, 68, 246, 77⟩ (.var ⟨246, 68, 246, 74⟩ 2) (.cst ⟨246, 75, 246, 76⟩ 0 (.int 3))) (.cons (.var ⟨246, 79, 246, 85⟩ 3) .nil))) (.idx ⟨246, 90, 246, 99⟩ (.var ⟨246, 90, 246, 96⟩ 2) (.cst ⟨246, 97, 246, 98⟩ 0 (.int 1)))) .nil)))) .nil)))) .nil) (.cons (.if_ ⟨247, 4, 250, 95⟩ (.and ⟨247, 7, 247, 46⟩ (.cons (.cmp ⟨247, 7, 247, 25⟩ .eq (.idx ⟨247, 7, 247, 16⟩ (.var ⟨247, 7, 247, 13⟩ 2) (.cst ⟨247, 14, 247, 15⟩ 0 (.int 0))) (.cst ⟨247, 20, 247, 25⟩ 0 (.str "bar"))) (.cons (.cmp ⟨247, 30, 247, 46⟩ .eq (.bi ⟨247, 30, 247, 41⟩ ⟨247, 30, 247, 33⟩ .len false (.cons (.var ⟨247, 34, 247, 40⟩ 2) .nil)) (.cst ⟨247, 45, 247, 46⟩ 0 (.int 2))) .nil))) (.cons (.if_ ⟨248, 8, 249, 24⟩ (.not ⟨248, 11, 248, 48⟩ (.call ⟨248, 15, 248, 48⟩ ⟨248, 15, 248, 26⟩ 15 (.cons (.idx ⟨248, 27, 248, 36⟩ (.var ⟨248, 27, 248, 33⟩ 2) (.cst ⟨248, 34, 248, 35⟩ 0 (.int 1))) (.cons (.bi ⟨248, 38, 248, 47⟩ ⟨248, 38, 248, 41⟩ .len false (.cons (.var ⟨248, 42, 248, 46⟩ 1) .nil)) .nil)))) (.cons (.ret ⟨249, 12, 249, 24⟩ (.cst ⟨249, 19, 249, 24⟩ 0 (.bl false))) .nil) .nil) (.cons (.ret ⟨250, 8, 250, 95⟩ (.and ⟨250, 15, 250, 95⟩ (.cons (.call ⟨250, 15, 250, 56⟩ ⟨250, 15, 250, 32⟩ 18 (.cons (.var ⟨250, 33, 250, 38⟩ 4) (.cons (.var ⟨250, 40, 250, 44⟩ 1) (.cons (.idx ⟨250, 46, 250, 55⟩ (.var ⟨250, 46, 250, 52⟩ 2) (.cst ⟨250, 53, 250, 54⟩ 0 (.int 1))) .nil)))) (.cons (.cmp ⟨250, 61, 250, 95⟩ .gt (.idx ⟨250, 61, 250, 91⟩ (.call ⟨250, 61, 250, 88⟩ ⟨250, 61, 250, 69⟩ 14 (.cons (.idx ⟨250, 70, 250, 79⟩ (.var ⟨250, 70, 250, 76⟩ 2) (.cst ⟨250, 77, 250, 78⟩ 0 (.int 1))) (.cons (.var ⟨250, 81, 250, 87⟩ 3) .nil))) (.cst ⟨250, 89, 250, 90⟩ 0 (.int 0))) (.cst ⟨250, 94, 250, 95⟩ 0 (.int 0))) .nil)))) .nil)) .nil) (.cons (.if_ ⟨251, 4, 256, 48⟩ (.and ⟨251, 7, 251, 46⟩ (.cons (.cmp ⟨251, 7, 251, 25⟩ .eq (.idx ⟨251, 7, 251, 16⟩ (.var ⟨251, 7, 251, 13⟩ 2) (.cst ⟨251, 14, 251, 15⟩ 0 (.int 0))) (.cst ⟨251, 20, 251, 25⟩ 0 (.str "ray"))) (.cons (.cmp ⟨251, 30, 251, 46⟩ .eq (.bi ⟨251, 30, 251, 41⟩ ⟨251, 30, 251, 33⟩ .len false (.cons (.var ⟨251, 34, 251, 40⟩ 2) .nil)) (.cst ⟨251, 45, 251, 46⟩ 0 (.int 3))) .nil))) (.cons (.if_ ⟨252, 8, 253, 24⟩ (.or ⟨252, 11, 252, 91⟩ (.cons (.not ⟨252, 11, 252, 49⟩ (.call ⟨252, 15, 252, 49⟩ ⟨252, 15, 252, 26⟩ 15 (.cons (.idx ⟨252, 27, 252, 36⟩ (.var ⟨252, 27, 252, 33⟩ 2) (.cst ⟨252, 34, 252, 35⟩ 0 (.int 1))) (.cons (.bi ⟨252, 38, 252, 48⟩ ⟨252, 38, 252, 41⟩ .len false (.cons (.var ⟨252, 42, 252, 47⟩ 0) .nil)) .nil)))) (.cons (.not ⟨252, 53, 252, 91⟩ (.call ⟨252, 57, 252, 91⟩ ⟨252, 57, 252, 68⟩ 15 (.cons (.idx ⟨252, 69, 252, 78⟩ (.var ⟨252, 69, 252, 75⟩ 2) (.cst ⟨252, 76, 252, 77⟩ 0 (.int 2))) (.cons (.bi ⟨252, 80, 252, 90⟩ ⟨252, 80, 252, 83⟩ .len false (.cons (.var ⟨252, 84, 252, 89⟩ 0) .nil)) .nil)))) .nil))) (.cons (.ret ⟨253, 12, 253, 24⟩ (.cst ⟨253, 19, 253, 24⟩ 0 (.bl false))) .nil) .nil) (.cons (.if_ ⟨254, 8, 255, 24⟩ (.or ⟨254, 11, 254, 106⟩ (.cons (.not ⟨254, 11, 254, 57⟩ (.call ⟨254, 15, 254, 57⟩ ⟨254, 15, 254, 33⟩ 17 (.cons (.var ⟨254, 34, 254, 38⟩ 1) (.cons (.idx ⟨254, 40, 254, 49⟩ (.var ⟨254, 40, 254, 46⟩ 2) (.cst ⟨254, 47, 254, 48⟩ 0 (.int 1))) (.cons (.cst ⟨254, 51, 254, 56⟩ 0 (.bl false)) .nil))))) (.cons (.not ⟨254, 61, 254, 106⟩ (.call ⟨254, 65, 254, 106⟩ ⟨254, 65, 254, 83⟩ 17 (.cons (.var ⟨254, 84, 254, 88⟩ 1) (.cons (.idx ⟨254, 90, 254, 99⟩ (.var ⟨254, 90, 254, 96⟩ 2) (.cst ⟨254, 97, 254, 98⟩ 0 (.int 2))) (.cons (.cst ⟨254, 101, 254, 105⟩ 0 (.bl true)) .nil))))) .nil))) (.cons (.ret ⟨255, 12, 255, 24⟩ (.cst ⟨255, 19, 255, 24⟩ 0 (.bl false))) .nil) .nil) (.cons (.ret ⟨256, 8, 256, 48⟩ (.cmp ⟨256, 15, 256, 48⟩ .lt (.idx ⟨256, 15, 256, 44⟩ (.call ⟨256, 15, 256, 41⟩ ⟨256, 15, 256, 23⟩ 14 (.cons (.var ⟨256, 24, 256, 29⟩ 0) (.cons (.idx ⟨256, 31, 256, 40⟩ (.var ⟨256, 31, 256, 37⟩ 2) (.cst ⟨256, 38, 256, 39⟩ 0 (.int 2))) .nil))) (.cst ⟨256, 42, 256, 43⟩ 0 (.int 0))) (.cst ⟨256, 47, 256, 48⟩ 0 (.int 0)))) .nil))) .nil) (.cons (.ret ⟨257, 4, 257, 16⟩ (.cst ⟨257, 11, 257, 16⟩ 0 (.bl false))) .nil)))))))
def ce19_0 : E := (.idx ⟨237, 14, 237, 20⟩ (.var ⟨237, 14, 237, 17⟩ 5) (.cst ⟨237, 18, 237, 19⟩ 0 (.int 1)))
def ct19_0 : Tg := (.name ⟨237, 25, 237, 28⟩ 5)
def ci19_0 : Es := .nil
def ce19_1 : E := (.tup ⟨238, 13, 238, 19⟩ 0 (.cons (.cst ⟨238, 14, 238, 15⟩ 0 (.int 0)) (.cons (.cst ⟨238, 17, 238, 18⟩ 0 (.int 1)) .nil)))
def ct19_1 : Tg := (.name ⟨238, 24, 238, 28⟩ 6)
def ci19_1 : Es := .nil
def f19 : Fn := ⟨3, 7, [], b19, true⟩
/-- _law_matrix -/
def n20 : List Str := (["many", "count", "draws", "factors", "lines", "i", "j"] : List (Str))
def p20 : List Str := (["many", "count", "draws"] : List (Str))
def b20 : Ss := (.cons (.asg ⟨259, 4, 259, 89⟩ (.name ⟨259, 4, 259, 11⟩ 3) (.lst ⟨259, 14, 259, 89⟩ false (.cons (.tup ⟨259, 15, 259, 21⟩ 0 (.cons (.cst ⟨259, 16, 259, 17⟩ 0 (.int 0)) (.cons (.cst ⟨259, 19, 259, 20⟩ 0 (.int 1)) .nil))) (.cons (.tup ⟨259, 23, 259, 29⟩ 0 (.cons (.cst ⟨259, 24, 259, 25⟩ 0 (.int 1)) (.cons (.cst ⟨259, 27, 259, 28⟩ 0 (.int 1)) .nil))) (.cons (.tup ⟨259, 31, 259, 38⟩ 0 (.cons (.neg ⟨259, 32, 259, 34⟩ (.cst ⟨259, 33, 259, 34⟩ 0 (.int 1))) (.cons (.cst ⟨259, 36, 259, 37⟩ 0 (.int 1)) .nil))) (.cons (.tup ⟨259, 40, 259, 46⟩ 0 (.cons (.cst ⟨259, 41, 259, 42⟩ 0 (.int 2)) (.cons (.cst ⟨259, 44, 259, 45⟩ 0 (.int 1)) .nil))) (.cons (.tup ⟨259, 48, 259, 54⟩ 0 (.cons (.cst ⟨259, 49, 259, 50⟩ 0 (.int 0)) (.cons (.cst ⟨259, 52, 259, 53⟩ 0 (.int 1)) .nil))) (.cons (.tup ⟨259, 56, 259, 63⟩ 0 (.cons (.neg ⟨259, 57, 259, 59⟩ (.cst ⟨259, 58, 259, 59⟩ 0 (.int 2))) (.cons (.cst ⟨259, 61, 259, 62⟩ 0 (.int 1)) .nil))) (.cons (.tup ⟨259, 65, 259, 71⟩ 0 (.cons (.cst ⟨259, 66, 259, 67⟩ 0 (.int 1)) (.cons (.cst ⟨259, 69, 259, 70⟩ 0 (.int 2)) .nil))) (.cons (.tup ⟨259, 73, 259, 79⟩ 0 (.cons (.cst ⟨259, 74, 259, 75⟩ 0 (.int 3)) (.cons (.cst ⟨259, 77, 259, 78⟩ 0 (.int 1)) .nil))) (.cons (.tup ⟨259, 81, 259, 88⟩ 0 (.cons (.neg ⟨259, 82, 259, 84⟩ (.cst ⟨259, 83, 259, 84⟩ 0 (.int 1))) (.cons (.cst ⟨259, 86, 259, 87⟩ 0 (.int 3)) .nil))) .nil))))))))))) (.cons (.asg ⟨260, 4, 260, 14⟩ (.name ⟨260, 4, 260, 9⟩ 4) (.lst ⟨260, 12, 260, 14⟩ true .nil)) (.cons (.for_ ⟨261, 4, 262, 77⟩ (.name ⟨261, 8, 261, 9⟩ 5) (.rng1 ⟨261, 13, 261, 25⟩ ⟨261, 13, 261, 18⟩ (.var ⟨261, 19, 261, 24⟩ 1)) (.cons (.expr ⟨262, 8, 262, 77⟩ (.bm ⟨262, 8, 262, 77⟩ ⟨262, 8, 262, 20⟩ .append false (.var ⟨262, 8, 262, 13⟩ 4) (.cons (.comp ⟨262, 21, 262, 76⟩ false sc6 [("j", 6)] (.idx ⟨262, 22, 262, 54⟩ (.var ⟨262, 22, 262, 29⟩ 3) (.bin ⟨262, 30, 262, 53⟩ false .mod (.idx ⟨262, 30, 262, 49⟩ (.var ⟨262, 30, 262, 35⟩ 2) (.bin ⟨262, 36, 262, 48⟩ false .add (.bin ⟨262, 36, 262, 44⟩ false .mul (.var ⟨262, 36, 262, 37⟩ 5) (.var ⟨262, 40, 262, 44⟩ 0)) (.var ⟨262, 47, 262, 48⟩ 6))) (.cst ⟨262, 52, 262, 53⟩ 0 (.int 9)))) (.name ⟨262, 59, 262, 60⟩ 6) (.rng1 ⟨262, 64, 262, 75⟩ ⟨262, 64, 262, 69⟩ (.var ⟨262, 70, 262, 74⟩ 0)) .nil) .nil))) .nil)) (.cons (.frz 4) (.cons (.ret ⟨263, 4, 263, 16⟩ (.var ⟨263, 11, 263, 16⟩ 4)) .nil)))))
def ce20_0 : E := (.idx ⟨262, 22, 262, 54⟩ (.var ⟨262, 22, 262, 29⟩ 3) (.bin ⟨262, 30, 262, 53⟩ false .mod (.idx ⟨262, 30, 262, 49⟩ (.var ⟨262, 30, 262, 35⟩ 2) (.bin ⟨262, 36, 262, 48⟩ false .add (.bin ⟨262, 36, 262, 44⟩ false .mul (.var ⟨262, 36, 262, 37⟩ 5) (.var ⟨262, 40, 262, 44⟩ 0)) (.var ⟨262, 47, 262, 48⟩ 6))) (.cst ⟨262, 52, 262, 53⟩ 0 (.int 9))))
def ct20_0 : Tg := (.name ⟨262, 59, 262, 60⟩ 6)
def ci20_0 : Es := .nil
def lt20_0 : Tg := (.name ⟨261, 8, 261, 9⟩ 5)
def lb20_0 : Ss := (.cons (.expr ⟨262, 8, 262, 77⟩ (.bm ⟨262, 8, 262, 77⟩ ⟨262, 8, 262, 20⟩ .append false (.var ⟨262, 8, 262, 13⟩ 4) (.cons (.comp ⟨262, 21, 262, 76⟩ false sc6 [("j", 6)] (.idx ⟨262, 22, 262, 54⟩ (.var ⟨262, 22, 262, 29⟩ 3) (.bin ⟨262, 30, 262, 53⟩ false .mod (.idx ⟨262, 30, 262, 49⟩ (.var ⟨262, 30, 262, 35⟩ 2) (.bin ⟨262, 36, 262, 48⟩ false .add (.bin ⟨262, 36, 262, 44⟩ false .mul (.var ⟨262, 36, 262, 37⟩ 5) (.var ⟨262, 40, 262, 44⟩ 0)) (.var ⟨262, 47, 262, 48⟩ 6))) (.cst ⟨262, 52, 262, 53⟩ 0 (.int 9)))) (.name ⟨262, 59, 262, 60⟩ 6) (.rng1 ⟨262, 64, 262, 75⟩ ⟨262, 64, 262, 69⟩ (.var ⟨262, 70, 262, 74⟩ 0)) .nil) .nil))) .nil)
def f20 : Fn := ⟨3, 7, [], b20, true⟩
/-- _law_best -/
def n21 : List Str := (["lines", "many", "draws", "j", "entries", "i", "prices", "rows", "bound", "costs"] : List (Str))
def p21 : List Str := (["lines", "many", "draws"] : List (Str))
def b21 : Ss := (.cons (.asg ⟨265, 4, 265, 66⟩ (.name ⟨265, 4, 265, 11⟩ 4) (.comp ⟨265, 14, 265, 66⟩ false sc7 [("j", 3)] (.tup ⟨265, 15, 265, 44⟩ 0 (.cons (.bi ⟨265, 16, 265, 40⟩ ⟨265, 16, 265, 19⟩ .max2 false (.cons (.cst ⟨265, 20, 265, 21⟩ 0 (.int 0)) (.cons (.bin ⟨265, 23, 265, 39⟩ false .sub (.bin ⟨265, 23, 265, 35⟩ false .mod (.idx ⟨265, 23, 265, 31⟩ (.var ⟨265, 23, 265, 28⟩ 2) (.var ⟨265, 29, 265, 30⟩ 3)) (.cst ⟨265, 34, 265, 35⟩ 0 (.int 6))) (.cst ⟨265, 38, 265, 39⟩ 0 (.int 2))) .nil))) (.cons (.cst ⟨265, 42, 265, 43⟩ 0 (.int 1)) .nil))) (.name ⟨265, 49, 265, 50⟩ 3) (.rng1 ⟨265, 54, 265, 65⟩ ⟨265, 54, 265, 59⟩ (.var ⟨265, 60, 265, 64⟩ 1)) .nil)) (.cons (.asg ⟨266, 4, 266, 76⟩ (.name ⟨266, 4, 266, 10⟩ 6) (.comp ⟨266, 13, 266, 76⟩ false sc8 [("i", 5)] (.tup ⟨266, 14, 266, 48⟩ 0 (.cons (.bi ⟨266, 15, 266, 44⟩ ⟨266, 15, 266, 18⟩ .max2 false (.cons (.cst ⟨266, 19, 266, 20⟩ 0 (.int 0)) (.cons (.bin ⟨266, 22, 266, 43⟩ false .sub (.bin ⟨266, 22, 266, 39⟩ false .mod (.idx ⟨266, 22, 266, 35⟩ (.var ⟨266, 22, 266, 27⟩ 2) (.bin ⟨266, 28, 266, 34⟩ false .add (.cst ⟨266, 28, 266, 30⟩ 0 (.int 10)) (.var ⟨266, 33, 266, 34⟩ 5))) (.cst ⟨266, 38, 266, 39⟩ 0 (.int 6))) (.cst ⟨266, 42, 266, 43⟩ 0 (.int 2))) .nil))) (.cons (.cst ⟨266, 46, 266, 47⟩ 0 (.int 1)) .nil))) (.name ⟨266, 53, 266, 54⟩ 5) (.rng1 ⟨266, 58, 266, 75⟩ ⟨266, 58, 266, 63⟩ (.bi ⟨266, 64, 266, 74⟩ ⟨266, 64, 266, 67⟩ .len false (.cons (.var ⟨266, 68, 266, 73⟩ 0) .nil))) .nil)) (.cons (.asg ⟨267, 4, 267, 13⟩ (.name ⟨267, 4, 267, 8⟩ 7) (.lst ⟨267, 11, 267, 13⟩ true .nil)) (.cons (.for_ ⟨268, 4, 272, 38⟩ (.name ⟨268, 8, 268, 9⟩ 5) (.rng1 ⟨268, 13, 268, 30⟩ ⟨268, 13, 268, 18⟩ (.bi ⟨268, 19, 268, 29⟩ ⟨268, 19, 268, 22⟩ .len false (.cons (.var ⟨268, 23, 268, 28⟩ 0) .nil))) (.cons (.asg ⟨269, 8, 269, 43⟩ (.name ⟨269, 8, 269, 13⟩ 8) (.call ⟨269, 16, 269, 43⟩ ⟨269, 16, 269, 24⟩ 14 (.cons (.idx ⟨269, 25, 269, 33⟩ (.var ⟨269, 25, 269, 30⟩ 0) (.var ⟨269, 31, 269, 32⟩ 5)) (.cons (.var ⟨269, 35, 269, 42⟩ 4) .nil)))) (.cons (.if_ ⟨270, 8, 271, 62⟩ (.cmp ⟨270, 11, 270, 28⟩ .eq (.idx ⟨270, 11, 270, 23⟩ (.idx ⟨270, 11, 270, 20⟩ (.var ⟨270, 11, 270, 17⟩ 6) (.var ⟨270, 18, 270, 19⟩ 5)) (.cst ⟨270, 21, 270, 22⟩ 0 (.int 0))) (.cst ⟨270, 27, 270, 28⟩ 0 (.int 0))) (.cons (.asg ⟨271, 12, 271, 62⟩ (.name ⟨271, 12, 271, 17⟩ 8) (.call ⟨271, 20, 271, 62⟩ ⟨271, 20, 271, 28⟩ 9 (.cons (.var ⟨271, 29, 271, 34⟩ 8) (.cons (.tup ⟨271, 36, 271, 61⟩ 0 (.cons (.neg ⟨271, 37, 271, 57⟩ (.bin ⟨271, 39, 271, 56⟩ false .mod (.idx ⟨271, 39, 271, 52⟩ (.var ⟨271, 39, 271, 44⟩ 2) (.bin ⟨271, 45, 271, 51⟩ false .add (.cst ⟨271, 45, 271, 47⟩ 0 (.int 20)) (.var ⟨271, 50, 271, 51⟩ 5))) (.cst ⟨271, 55, 271, 56⟩ 0 (.int 3)))) (.cons (.cst ⟨271, 59, 271, 60⟩ 0 (.int 1)) .nil))) .nil)))) .nil) .nil) (.cons (.expr ⟨272, 8, 272, 38⟩ (.bm ⟨272, 8, 272, 38⟩ ⟨272, 8, 272, 19⟩ .append false (.var ⟨272, 8, 272, 12⟩ 7) (.cons (.tup ⟨272, 20, 272, 37⟩ 0 (.cons (.idx ⟨272, 21, 272, 29⟩ (.var ⟨272, 21, 272, 26⟩ 0) (.var ⟨272, 27, 272, 28⟩ 5)) (.cons (.var ⟨272, 31, 272, 36⟩ 8) .nil))) .nil))) .nil)))) (.cons (.asg ⟨273, 4, 273, 41⟩ (.name ⟨273, 4, 273, 9⟩ 9) (.call ⟨273, 12, 273, 41⟩ ⟨273, 12, 273, 21⟩ 16 (.cons (.var ⟨273, 22, 273, 26⟩ 7) (.cons (.var ⟨273, 28, 273, 34⟩ 6) (.cons (.var ⟨273, 36, 273, 40⟩ 1) .nil))))) (.cons (.for_ ⟨274, 4, 276, 65⟩ (.name ⟨274, 8, 274, 9⟩ 3) (.rng1 ⟨274, 13, 274, 24⟩ ⟨274, 13, 274, 18⟩ (.var ⟨274, 19, 274, 23⟩ 1)) (.cons (.if_ ⟨275, 8, 276, 65⟩ (.cmp ⟨275, 11, 275, 29⟩ .eq (.idx ⟨275, 11, 275, 24⟩ (.idx ⟨275, 11, 275, 21⟩ (.var ⟨275, 11, 275, 18⟩ 4) (.var ⟨275, 19, 275, 20⟩ 3)) (.cst ⟨275, 22, 275, 23⟩ 0 (.int 0))) (.cst ⟨275, 28, 275, 29⟩ 0 (.int 0))) (.cons (.asg ⟨276, 12, 276, 65⟩ (.sub ⟨276, 12, 276, 20⟩ (.var ⟨276, 12, 276, 17⟩ 9) (.var ⟨276, 18, 276, 19⟩ 3)) (.call ⟨276, 23, 276, 65⟩ ⟨276, 23, 276, 31⟩ 9 (.cons (.idx ⟨276, 32, 276, 40⟩ (.var ⟨276, 32, 276, 37⟩ 9) (.var ⟨276, 38, 276, 39⟩ 3)) (.cons (.tup ⟨276, 42, 276, 64⟩ 0 (.cons (.bin ⟨276, 43, 276, 60⟩ false .mod (.idx ⟨276, 43, 276, 56⟩ (.var ⟨276, 43, 276, 48⟩ 2) (.bin ⟨276, 49, 276, 55⟩ false .add (.cst ⟨276, 49, 276, 51⟩ 0 (.int 30)) (.var ⟨276, 54, 276, 55⟩ 3))) (.cst ⟨276, 59, 276, 60⟩ 0 (.int 3))) (.cons (.cst ⟨276, 62, 276, 63⟩ 0 (.int 1)) .nil))) .nil)))) .nil) .nil) .nil)) (.cons (.frz 9) (.cons (.frz 7) (.cons (.ret ⟨277, 4, 277, 50⟩ (.lst ⟨277, 11, 277, 50⟩ false (.cons (.var ⟨277, 12, 277, 17⟩ 9) (.cons (.var ⟨277, 19, 277, 23⟩ 7) (.cons (.call ⟨277, 25, 277, 49⟩ ⟨277, 25, 277, 33⟩ 14 (.cons (.var ⟨277, 34, 277, 39⟩ 9) (.cons (.var ⟨277, 41, 277, 48⟩ 4) .nil))) .nil))))) .nil)))))))))
def ce21_0 : E := (.tup ⟨265, 15, 265, 44⟩ 0 (.cons (.bi ⟨265, 16, 265, 40⟩ ⟨265, 16, 265, 19⟩ .max2 false (.cons (.cst ⟨265, 20, 265, 21⟩ 0 (.int 0)) (.cons (.bin ⟨265, 23, 265, 39⟩ false .sub (.bin ⟨265, 23, 265, 35⟩ false .mod (.idx ⟨265, 23, 265, 31⟩ (.var ⟨265, 23, 265, 28⟩ 2) (.var ⟨265, 29, 265, 30⟩ 3)) (.cst ⟨265, 34, 265, 35⟩ 0 (.int 6))) (.cst ⟨265, 38, 265, 39⟩ 0 (.int 2))) .nil))) (.cons (.cst ⟨265, 42, 265, 43⟩ 0 (.int 1)) .nil)))
def ct21_0 : Tg := (.name ⟨265, 49, 265, 50⟩ 3)
def ci21_0 : Es := .nil
def ce21_1 : E := (.tup ⟨266, 14, 266, 48⟩ 0 (.cons (.bi ⟨266, 15, 266, 44⟩ ⟨266, 15, 266, 18⟩ .max2 false (.cons (.cst ⟨266, 19, 266, 20⟩ 0 (.int 0)) (.cons (.bin ⟨266, 22, 266, 43⟩ false .sub (.bin ⟨266, 22, 266, 39⟩ false .mod (.idx ⟨266, 22, 266, 35⟩ (.var ⟨266, 22, 266, 27⟩ 2) (.bin ⟨266, 28, 266, 34⟩ false .add (.cst ⟨266, 28, 266, 30⟩ 0 (.int 10)) (.var ⟨266, 33, 266, 34⟩ 5))) (.cst ⟨266, 38, 266, 39⟩ 0 (.int 6))) (.cst ⟨266, 42, 266, 43⟩ 0 (.int 2))) .nil))) (.cons (.cst ⟨266, 46, 266, 47⟩ 0 (.int 1)) .nil)))
def ct21_1 : Tg := (.name ⟨266, 53, 266, 54⟩ 5)
def ci21_1 : Es := .nil
def lt21_0 : Tg := (.name ⟨268, 8, 268, 9⟩ 5)
def lb21_0 : Ss := (.cons (.asg ⟨269, 8, 269, 43⟩ (.name ⟨269, 8, 269, 13⟩ 8) (.call ⟨269, 16, 269, 43⟩ ⟨269, 16, 269, 24⟩ 14 (.cons (.idx ⟨269, 25, 269, 33⟩ (.var ⟨269, 25, 269, 30⟩ 0) (.var ⟨269, 31, 269, 32⟩ 5)) (.cons (.var ⟨269, 35, 269, 42⟩ 4) .nil)))) (.cons (.if_ ⟨270, 8, 271, 62⟩ (.cmp ⟨270, 11, 270, 28⟩ .eq (.idx ⟨270, 11, 270, 23⟩ (.idx ⟨270, 11, 270, 20⟩ (.var ⟨270, 11, 270, 17⟩ 6) (.var ⟨270, 18, 270, 19⟩ 5)) (.cst ⟨270, 21, 270, 22⟩ 0 (.int 0))) (.cst ⟨270, 27, 270, 28⟩ 0 (.int 0))) (.cons (.asg ⟨271, 12, 271, 62⟩ (.name ⟨271, 12, 271, 17⟩ 8) (.call ⟨271, 20, 271, 62⟩ ⟨271, 20, 271, 28⟩ 9 (.cons (.var ⟨271, 29, 271, 34⟩ 8) (.cons (.tup ⟨271, 36, 271, 61⟩ 0 (.cons (.neg ⟨271, 37, 271, 57⟩ (.bin ⟨271, 39, 271, 56⟩ false .mod (.idx ⟨271, 39, 271, 52⟩ (.var ⟨271, 39, 271, 44⟩ 2) (.bin ⟨271, 45, 271, 51⟩ false .add (.cst ⟨271, 45, 271, 47⟩ 0 (.int 20)) (.var ⟨271, 50, 271, 51⟩ 5))) (.cst ⟨271, 55, 271, 56⟩ 0 (.int 3)))) (.cons (.cst ⟨271, 59, 271, 60⟩ 0 (.int 1)) .nil))) .nil)))) .nil) .nil) (.cons (.expr ⟨272, 8, 272, 38⟩ (.bm ⟨272, 8, 272, 38⟩ ⟨272, 8, 272, 19⟩ .append false (.var ⟨272, 8, 272, 12⟩ 7) (.cons (.tup ⟨272, 20, 272, 37⟩ 0 (.cons (.idx ⟨272, 21, 272, 29⟩ (.var ⟨272, 21, 272, 26⟩ 0) (.var ⟨272, 27, 272, 28⟩ 5)) (.cons (.var ⟨272, 31, 272, 36⟩ 8) .nil))) .nil))) .nil)))
def lt21_1 : Tg := (.name ⟨274, 8, 274, 9⟩ 3)
def lb21_1 : Ss := (.cons (.if_ ⟨275, 8, 276, 65⟩ (.cmp ⟨275, 11, 275, 29⟩ .eq (.idx ⟨275, 11, 275, 24⟩ (.idx ⟨275, 11, 275, 21⟩ (.var ⟨275, 11, 275, 18⟩ 4) (.var ⟨275, 19, 275, 20⟩ 3)) (.cst ⟨275, 22, 275, 23⟩ 0 (.int 0))) (.cst ⟨275, 28, 275, 29⟩ 0 (.int 0))) (.cons (.asg ⟨276, 12, 276, 65⟩ (.sub ⟨276, 12, 276, 20⟩ (.var ⟨276, 12, 276, 17⟩ 9) (.var ⟨276, 18, 276, 19⟩ 3)) (.call ⟨276, 23, 276, 65⟩ ⟨276, 23, 276, 31⟩ 9 (.cons (.idx ⟨276, 32, 276, 40⟩ (.var ⟨276, 32, 276, 37⟩ 9) (.var ⟨276, 38, 276, 39⟩ 3)) (.cons (.tup ⟨276, 42, 276, 64⟩ 0 (.cons (.bin ⟨276, 43, 276, 60⟩ false .mod (.idx ⟨276, 43, 276, 56⟩ (.var ⟨276, 43, 276, 48⟩ 2) (.bin ⟨276, 49, 276, 55⟩ false .add (.cst ⟨276, 49, 276, 51⟩ 0 (.int 30)) (.var ⟨276, 54, 276, 55⟩ 3))) (.cst ⟨276, 59, 276, 60⟩ 0 (.int 3))) (.cons (.cst ⟨276, 62, 276, 63⟩ 0 (.int 1)) .nil))) .nil)))) .nil) .nil) .nil)
def f21 : Fn := ⟨3, 10, [], b21, true⟩
/-- _law_numbers -/
def n22 : List Str := (["many", "lines", "draws", "costs", "rows", "i", "j"] : List (Str))
def p22 : List Str := (["many", "lines", "draws"] : List (Str))
def b22 : Ss := (.cons (.asg ⟨279, 4, 279, 88⟩ (.name ⟨279, 4, 279, 9⟩ 3) (.comp ⟨279, 12, 279, 88⟩ false sc9 [("j", 6)] (.call ⟨279, 13, 279, 66⟩ ⟨279, 13, 279, 23⟩ 8 (.cons (.bin ⟨279, 24, 279, 41⟩ false .sub (.bin ⟨279, 24, 279, 37⟩ false .mod (.idx ⟨279, 24, 279, 32⟩ (.var ⟨279, 24, 279, 29⟩ 2) (.var ⟨279, 30, 279, 31⟩ 6)) (.cst ⟨279, 35, 279, 37⟩ 0 (.int 11))) (.cst ⟨279, 40, 279, 41⟩ 0 (.int 4))) (.cons (.bin ⟨279, 43, 279, 65⟩ false .add (.cst ⟨279, 43, 279, 44⟩ 0 (.int 1)) (.bin ⟨279, 47, 279, 65⟩ false .mod (.bin ⟨279, 47, 279, 61⟩ false .fdiv (.idx ⟨279, 47, 279, 55⟩ (.var ⟨279, 47, 279, 52⟩ 2) (.var ⟨279, 53, 279, 54⟩ 6)) (.cst ⟨279, 59, 279, 61⟩ 0 (.int 11))) (.cst ⟨279, 64, 279, 65⟩ 0 (.int 3)))) .nil))) (.name ⟨279, 71, 279, 72⟩ 6) (.rng1 ⟨279, 76, 279, 87⟩ ⟨279, 76, 279, 81⟩ (.var ⟨279, 82, 279, 86⟩ 0)) .nil)) (.cons (.asg ⟨280, 4, 280, 13⟩ (.name ⟨280, 4, 280, 8⟩ 4) (.lst ⟨280, 11, 280, 13⟩ true .nil)) (.cons (.for_ ⟨281, 4, 282, 96⟩ (.name ⟨281, 8, 281, 9⟩ 5) (.rng1 ⟨281, 13, 281, 30⟩ ⟨281, 13, 281, 18⟩ (.bi ⟨281, 19, 281, 29⟩ ⟨281, 19, 281, 22⟩ .len false (.cons (.var ⟨281, 23, 281, 28⟩ 1) .nil))) (.cons (.expr ⟨282, 8, 282, 96⟩ (.bm ⟨282, 8, 282, 96⟩ ⟨282, 8, 282, 19⟩ .append false (.var ⟨282, 8, 282, 12⟩ 4) (.cons (.tup ⟨282, 20, 282, 95⟩ 0 (.cons (.idx ⟨282, 21, 282, 29⟩ (.var ⟨282, 21, 282, 26⟩ 1) (.var ⟨282, 27, 282, 28⟩ 5)) (.cons (.call ⟨282, 31, 282, 94⟩ ⟨282, 31, 282, 41⟩ 8 (.cons (.bin ⟨282, 42, 282, 64⟩ false .sub (.bin ⟨282, 42, 282, 60⟩ false .mod (.idx ⟨282, 42, 282, 55⟩ (.var ⟨282, 42, 282, 47⟩ 2) (.bin ⟨282, 48, 282, 54⟩ false .add (.cst ⟨282, 48, 282, 50⟩ 0 (.int 10)) (.var ⟨282, 53, 282, 54⟩ 5))) (.cst ⟨282, 58, 282, 60⟩ 0 (.int 11))) (.cst ⟨282, 63, 282, 64⟩ 0 (.int 4))) (.cons (.bin ⟨282, 66, 282, 93⟩ false .add (.cst ⟨282, 66, 282, 67⟩ 0 (.int 1)) (.bin ⟨282, 70, 282, 93⟩ false .mod (.bin ⟨282, 70, 282, 89⟩ false .fdiv (.idx ⟨282, 70, 282, 83⟩ (.var ⟨282, 70, 282, 75⟩ 2) (.bin ⟨282, 76, 282, 82⟩ false .add (.cst ⟨282, 76, 282, 78⟩ 0 (.int 10)) (.var ⟨282, 81, 282, 82⟩ 5))) (.cst ⟨282, 87, 282, 89⟩ 0 (.int 11))) (.cst ⟨282, 92, 282, 93⟩ 0 (.int 3)))) .nil))) .nil))) .nil))) .nil)) (.cons (.frz 4) (.cons (.ret ⟨283, 4, 283, 24⟩ (.lst ⟨283, 11, 283, 24⟩ false (.cons (.var ⟨283, 12, 283, 17⟩ 3) (.cons (.var ⟨283, 19, 283, 23⟩ 4) .nil)))) .nil)))))
def ce22_0 : E := (.call ⟨279, 13, 279, 66⟩ ⟨279, 13, 279, 23⟩ 8 (.cons (.bin ⟨279, 24, 279, 41⟩ false .sub (.bin ⟨279, 24, 279, 37⟩ false .mod (.idx ⟨279, 24, 279, 32⟩ (.var ⟨279, 24, 279, 29⟩ 2) (.var ⟨279, 30, 279, 31⟩ 6)) (.cst ⟨279, 35, 279, 37⟩ 0 (.int 11))) (.cst ⟨279, 40, 279, 41⟩ 0 (.int 4))) (.cons (.bin ⟨279, 43, 279, 65⟩ false .add (.cst ⟨279, 43, 279, 44⟩ 0 (.int 1)) (.bin ⟨279, 47, 279, 65⟩ false .mod (.bin ⟨279, 47, 279, 61⟩ false .fdiv (.idx ⟨279, 47, 279, 55⟩ (.var ⟨279, 47, 279, 52⟩ 2) (.var ⟨279, 53, 279, 54⟩ 6)) (.cst ⟨279, 59, 279, 61⟩ 0 (.int 11))) (.cst ⟨279, 64, 279, 65⟩ 0 (.int 3)))) .nil)))
def ct22_0 : Tg := (.name ⟨279, 71, 279, 72⟩ 6)
def ci22_0 : Es := .nil
def lt22_0 : Tg := (.name ⟨281, 8, 281, 9⟩ 5)
def lb22_0 : Ss := (.cons (.expr ⟨282, 8, 282, 96⟩ (.bm ⟨282, 8, 282, 96⟩ ⟨282, 8, 282, 19⟩ .append false (.var ⟨282, 8, 282, 12⟩ 4) (.cons (.tup ⟨282, 20, 282, 95⟩ 0 (.cons (.idx ⟨282, 21, 282, 29⟩ (.var ⟨282, 21, 282, 26⟩ 1) (.var ⟨282, 27, 282, 28⟩ 5)) (.cons (.call ⟨282, 31, 282, 94⟩ ⟨282, 31, 282, 41⟩ 8 (.cons (.bin ⟨282, 42, 282, 64⟩ false .sub (.bin ⟨282, 42, 282, 60⟩ false .mod (.idx ⟨282, 42, 282, 55⟩ (.var ⟨282, 42, 282, 47⟩ 2) (.bin ⟨282, 48, 282, 54⟩ false .add (.cst ⟨282, 48, 282, 50⟩ 0 (.int 10)) (.var ⟨282, 53, 282, 54⟩ 5))) (.cst ⟨282, 58, 282, 60⟩ 0 (.int 11))) (.cst ⟨282, 63, 282, 64⟩ 0 (.int 4))) (.cons (.bin ⟨282, 66, 282, 93⟩ false .add (.cst ⟨282, 66, 282, 67⟩ 0 (.int 1)) (.bin ⟨282, 70, 282, 93⟩ false .mod (.bin ⟨282, 70, 282, 89⟩ false .fdiv (.idx ⟨282, 70, 282, 83⟩ (.var ⟨282, 70, 282, 75⟩ 2) (.bin ⟨282, 76, 282, 82⟩ false .add (.cst ⟨282, 76, 282, 78⟩ 0 (.int 10)) (.var ⟨282, 81, 282, 82⟩ 5))) (.cst ⟨282, 87, 282, 89⟩ 0 (.int 11))) (.cst ⟨282, 92, 282, 93⟩ 0 (.int 3)))) .nil))) .nil))) .nil))) .nil)
def f22 : Fn := ⟨3, 7, [], b22, true⟩
/-- _law_with_bar -/
def n23 : List Str := (["costs", "rows", "draws", "prices", "sums", "line", "worth", "bound", "at", "i", "j", "row"] : List (Str))
def p23 : List Str := (["costs", "rows", "draws"] : List (Str))
def b23 : Ss := (.cons (.asg ⟨285, 4, 285, 63⟩ (.name ⟨285, 4, 285, 10⟩ 3) (.comp ⟨285, 13, 285, 63⟩ false sc10 [("i", 9)] (.tup ⟨285, 14, 285, 36⟩ 0 (.cons (.bin ⟨285, 15, 285, 32⟩ false .mod (.idx ⟨285, 15, 285, 28⟩ (.var ⟨285, 15, 285, 20⟩ 2) (.bin ⟨285, 21, 285, 27⟩ false .add (.cst ⟨285, 21, 285, 23⟩ 0 (.int 20)) (.var ⟨285, 26, 285, 27⟩ 9))) (.cst ⟨285, 31, 285, 32⟩ 0 (.int 3))) (.cons (.cst ⟨285, 34, 285, 35⟩ 0 (.int 1)) .nil))) (.name ⟨285, 41, 285, 42⟩ 9) (.rng1 ⟨285, 46, 285, 62⟩ ⟨285, 46, 285, 51⟩ (.bi ⟨285, 52, 285, 61⟩ ⟨285, 52, 285, 55⟩ .len false (.cons (.var ⟨285, 56, 285, 60⟩ 1) .nil))) .nil)) (.cons (.asg ⟨286, 4, 286, 46⟩ (.name ⟨286, 4, 286, 8⟩ 4) (.call ⟨286, 11, 286, 46⟩ ⟨286, 11, 286, 20⟩ 16 (.cons (.var ⟨286, 21, 286, 25⟩ 1) (.cons (.var ⟨286, 27, 286, 33⟩ 3) (.cons (.bi ⟨286, 35, 286, 45⟩ ⟨286, 35, 286, 38⟩ .len false (.cons (.var ⟨286, 39, 286, 44⟩ 0) .nil)) .nil))))) (.cons (.asg ⟨287, 4, 287, 107⟩ (.name ⟨287, 4, 287, 8⟩ 5) (.comp ⟨287, 11, 287, 107⟩ false sc11 [("j", 10)] (.call ⟨287, 12, 287, 79⟩ ⟨287, 12, 287, 20⟩ 9 (.cons (.tup ⟨287, 21, 287, 46⟩ 0 (.cons (.neg ⟨287, 22, 287, 33⟩ (.idx ⟨287, 23, 287, 33⟩ (.idx ⟨287, 23, 287, 30⟩ (.var ⟨287, 23, 287, 27⟩ 4) (.var ⟨287, 28, 287, 29⟩ 10)) (.cst ⟨287, 31, 287, 32⟩ 0 (.int 0)))) (.cons (.idx ⟨287, 35, 287, 45⟩ (.idx ⟨287, 35, 287, 42⟩ (.var ⟨287, 35, 287, 39⟩ 4) (.var ⟨287, 40, 287, 41⟩ 10)) (.cst ⟨287, 43, 287, 44⟩ 0 (.int 1))) .nil))) (.cons (.tup ⟨287, 48, 287, 78⟩ 0 (.cons (.neg ⟨287, 49, 287, 74⟩ (.bin ⟨287, 51, 287, 73⟩ false .fdiv (.bin ⟨287, 51, 287, 68⟩ false .mod (.idx ⟨287, 51, 287, 64⟩ (.var ⟨287, 51, 287, 56⟩ 2) (.bin ⟨287, 57, 287, 63⟩ false .add (.cst ⟨287, 57, 287, 59⟩ 0 (.int 30)) (.var ⟨287, 62, 287, 63⟩ 10))) (.cst ⟨287, 67, 287, 68⟩ 0 (.int 3))) (.cst ⟨287, 72, 287, 73⟩ 0 (.int 2)))) (.cons (.cst ⟨287, 76, 287, 77⟩ 0 (.int 1)) .nil))) .nil))) (.name ⟨287, 84, 287, 85⟩ 10) (.rng1 ⟨287, 89, 287, 106⟩ ⟨287, 89, 287, 94⟩ (.bi ⟨287, 95, 287, 105⟩ ⟨287, 95, 287, 98⟩ .len false (.cons (.var ⟨287, 99, 287, 104⟩ 0) .nil))) .nil)) (.cons (.asg ⟨288, 4, 288, 54⟩ (.name ⟨288, 4, 288, 9⟩ 6) (.call ⟨288, 12, 288, 54⟩ ⟨288, 12, 288, 20⟩ 14 (.cons (.var ⟨288, 21, 288, 27⟩ 3) (.cons (.comp ⟨288, 29, 288, 53⟩ false sc4 [("row", 11)] (.idx ⟨288, 30, 288, 36⟩ (.var ⟨288, 30, 288, 33⟩ 11) (.cst ⟨288, 34, 288, 35⟩ 0 (.int 1))) (.name ⟨288, 41, 288, 44⟩ 11) (.of (.var ⟨288, 48, 288, 52⟩ 1)) .nil) .nil)))) (.cons (.asg ⟨289, 4, 289, 77⟩ (.name ⟨289, 4, 289, 9⟩ 7) (.call ⟨289, 12, 289, 77⟩ ⟨289, 12, 289, 20⟩ 9 (.cons (.tup ⟨289, 21, 289, 42⟩ 0 (.cons (.neg ⟨289, 22, 289, 31⟩ (.idx ⟨289, 23, 289, 31⟩ (.var ⟨289, 23, 289, 28⟩ 6) (.cst ⟨289, 29, 289, 30⟩ 0 (.int 0)))) (.cons (.idx ⟨289, 33, 289, 41⟩ (.var ⟨289, 33, 289, 38⟩ 6) (.cst ⟨289, 39, 289, 40⟩ 0 (.int 1))) .nil))) (.cons (.call ⟨289, 44, 289, 76⟩ ⟨289, 44, 289, 54⟩ 8 (.cons (.bin ⟨289, 55, 289, 72⟩ false .add (.cst ⟨289, 55, 289, 56⟩ 0 (.int 1)) (.bin ⟨289, 59, 289, 72⟩ false .mod (.idx ⟨289, 59, 289, 68⟩ (.var ⟨289, 59, 289, 64⟩ 2) (.cst ⟨289, 65, 289, 67⟩ 0 (.int 39))) (.cst ⟨289, 71, 289, 72⟩ 0 (.int 3)))) (.cons (.cst ⟨289, 74, 289, 75⟩ 0 (.int 2)) .nil))) .nil)))) (.cons (.asg ⟨290, 4, 290, 36⟩ (.name ⟨290, 4, 290, 6⟩ 8) (.bin ⟨290, 9, 290, 36⟩ false .mod (.idx ⟨290, 9, 290, 18⟩ (.var ⟨290, 9, 290, 14⟩ 2) (.cst ⟨290, 15, 290, 17⟩ 0 (.int 38))) (.bin ⟨290, 22, 290, 35⟩ false .add (.bi ⟨290, 22, 290, 31⟩ ⟨290, 22, 290, 25⟩ .len false (.cons (.var ⟨290, 26, 290, 30⟩ 1) .nil)) (.cst ⟨290, 34, 290, 35⟩ 0 (.int 1))))) (.cons (.ret ⟨291, 4, 291, 59⟩ (.lst ⟨291, 11, 291, 59⟩ false (.cons (.var ⟨291, 12, 291, 17⟩ 0) (.cons (.bin ⟨291, 19, 291, 58⟩ false .add (.bin ⟨291, 19, 291, 46⟩ false .add (.slc ⟨291, 19, 291, 28⟩ ⟨291, 24, 291, 27⟩ false (.var ⟨291, 19, 291, 23⟩ 1) .no (.yes (.var ⟨291, 25, 291, 27⟩ 8))) (.lst ⟨291, 31, 291, 46⟩ false (.cons (.tup ⟨291, 32, 291, 45⟩ 0 (.cons (.var ⟨291, 33, 291, 37⟩ 5) (.cons (.var ⟨291, 39, 291, 44⟩ 7) .nil))) .nil))) (.slc ⟨291, 49, 291, 58⟩ ⟨291, 54, 291, 57⟩ false (.var ⟨291, 49, 291, 53⟩ 1) (.yes (.var ⟨291, 54, 291, 56⟩ 8)) .no)) .nil)))) .nil)))))))
def ce23_0 : E := (.tup ⟨285, 14, 285, 36⟩ 0 (.cons (.bin ⟨285, 15, 285, 32⟩ false .mod (.idx ⟨285, 15, 285, 28⟩ (.var ⟨285, 15, 285, 20⟩ 2) (.bin ⟨285, 21, 285, 27⟩ false .add (.cst ⟨285, 21, 285, 23⟩ 0 (.int 20)) (.var ⟨285, 26, 285, 27⟩ 9))) (.cst ⟨285, 31, 285, 32⟩ 0 (.int 3))) (.cons (.cst ⟨285, 34, 285, 35⟩ 0 (.int 1)) .nil)))
def ct23_0 : Tg := (.name ⟨285, 41, 285, 42⟩ 9)
def ci23_0 : Es := .nil
def ce23_1 : E := (.call ⟨287, 12, 287, 79⟩ ⟨287, 12, 287, 20⟩ 9 (.cons (.tup ⟨287, 21, 287, 46⟩ 0 (.cons (.neg ⟨287, 22, 287, 33⟩ (.idx ⟨287, 23, 287, 33⟩ (.idx ⟨287, 23, 287, 30⟩ (.var ⟨287, 23, 287, 27⟩ 4) (.var ⟨287, 28, 287, 29⟩ 10)) (.cst ⟨287, 31, 287, 32⟩ 0 (.int 0)))) (.cons (.idx ⟨287, 35, 287, 45⟩ (.idx ⟨287, 35, 287, 42⟩ (.var ⟨287, 35, 287, 39⟩ 4) (.var ⟨287, 40, 287, 41⟩ 10)) (.cst ⟨287, 43, 287, 44⟩ 0 (.int 1))) .nil))) (.cons (.tup ⟨287, 48, 287, 78⟩ 0 (.cons (.neg ⟨287, 49, 287, 74⟩ (.bin ⟨287, 51, 287, 73⟩ false .fdiv (.bin ⟨287, 51, 287, 68⟩ false .mod (.idx ⟨287, 51, 287, 64⟩ (.var ⟨287, 51, 287, 56⟩ 2) (.bin ⟨287, 57, 287, 63⟩ false .add (.cst ⟨287, 57, 287, 59⟩ 0 (.int 30)) (.var ⟨287, 62, 287, 63⟩ 10))) (.cst ⟨287, 67, 287, 68⟩ 0 (.int 3))) (.cst ⟨287, 72, 287, 73⟩ 0 (.int 2)))) (.cons (.cst ⟨287, 76, 287, 77⟩ 0 (.int 1)) .nil))) .nil)))
def ct23_1 : Tg := (.name ⟨287, 84, 287, 85⟩ 10)
def ci23_1 : Es := .nil
def ce23_2 : E := (.idx ⟨288, 30, 288, 36⟩ (.var ⟨288, 30, 288, 33⟩ 11) (.cst ⟨288, 34, 288, 35⟩ 0 (.int 1)))
def ct23_2 : Tg := (.name ⟨288, 41, 288, 44⟩ 11)
def ci23_2 : Es := .nil
def f23 : Fn := ⟨3, 12, [], b23, true⟩
/-- _law_with_ray -/
def n24 : List Str := (["costs", "rows", "draws", "entries", "way", "kept", "i", "line", "fall", "at", "j", "factor"] : List (Str))
def p24 : List Str := (["costs", "rows", "draws"] : List (Str))
def b24 : Ss := (.cons (.asg ⟨293, 4, 293, 60⟩ (.name ⟨293, 4, 293, 11⟩ 3) (.comp ⟨293, 14, 293, 60⟩ false sc12 [("j", 10)] (.tup ⟨293, 15, 293, 32⟩ 0 (.cons (.bin ⟨293, 16, 293, 28⟩ false .mod (.idx ⟨293, 16, 293, 24⟩ (.var ⟨293, 16, 293, 21⟩ 2) (.var ⟨293, 22, 293, 23⟩ 10)) (.cst ⟨293, 27, 293, 28⟩ 0 (.int 3))) (.cons (.cst ⟨293, 30, 293, 31⟩ 0 (.int 1)) .nil))) (.name ⟨293, 37, 293, 38⟩ 10) (.rng1 ⟨293, 42, 293, 59⟩ ⟨293, 42, 293, 47⟩ (.bi ⟨293, 48, 293, 58⟩ ⟨293, 48, 293, 51⟩ .len false (.cons (.var ⟨293, 52, 293, 57⟩ 0) .nil))) .nil)) (.cons (.asg ⟨294, 4, 294, 61⟩ (.name ⟨294, 4, 294, 7⟩ 4) (.comp ⟨294, 10, 294, 61⟩ true sc12 [("j", 10)] (.tup ⟨294, 11, 294, 33⟩ 0 (.cons (.bin ⟨294, 12, 294, 29⟩ false .mod (.idx ⟨294, 12, 294, 25⟩ (.var ⟨294, 12, 294, 17⟩ 2) (.bin ⟨294, 18, 294, 24⟩ false .add (.cst ⟨294, 18, 294, 20⟩ 0 (.int 20)) (.var ⟨294, 23, 294, 24⟩ 10))) (.cst ⟨294, 28, 294, 29⟩ 0 (.int 3))) (.cons (.cst ⟨294, 31, 294, 32⟩ 0 (.int 1)) .nil))) (.name ⟨294, 38, 294, 39⟩ 10) (.rng1 ⟨294, 43, 294, 60⟩ ⟨294, 43, 294, 48⟩ (.bi ⟨294, 49, 294, 59⟩ ⟨294, 49, 294, 52⟩ .len false (.cons (.var ⟨294, 53, 294, 58⟩ 0) .nil))) .nil)) (.cons (.asg ⟨295, 4, 295, 40⟩ (.sub ⟨295, 4, 295, 31⟩ (.var ⟨295, 4, 295, 7⟩ 4) (.bin ⟨295, 8, 295, 30⟩ false .mod (.idx ⟨295, 8, 295, 17⟩ (.var ⟨295, 8, 295, 13⟩ 2) (.cst ⟨295, 14, 295, 16⟩ 0 (.int 38))) (.bi ⟨295, 20, 295, 30⟩ ⟨295, 20, 295, 23⟩ .len false (.cons (.var ⟨295, 24, 295, 29⟩ 0) .nil)))) (.tup ⟨295, 34, 295, 40⟩ 0 (.cons (.cst ⟨295, 35, 295, 36⟩ 0 (.int 1)) (.cons (.cst ⟨295, 38, 295, 39⟩ 0 (.int 2)) .nil)))) (.cons (.asg ⟨296, 4, 296, 13⟩ (.name ⟨296, 4, 296, 8⟩ 5) (.lst ⟨296, 11, 296, 13⟩ true .nil)) (.cons (.for_ ⟨297, 4, 301, 89⟩ (.name ⟨297, 8, 297, 9⟩ 6) (.rng1 ⟨297, 13, 297, 29⟩ ⟨297, 13, 297, 18⟩ (.bi ⟨297, 19, 297, 28⟩ ⟨297, 19, 297, 22⟩ .len false (.cons (.var ⟨297, 23, 297, 27⟩ 1) .nil))) (.cons (.asg ⟨298, 8, 298, 31⟩ (.name ⟨298, 8, 298, 12⟩ 7) (.bi ⟨298, 15, 298, 31⟩ ⟨298, 15, 298, 19⟩ .list1 false (.cons (.idx ⟨298, 20, 298, 30⟩ (.idx ⟨298, 20, 298, 27⟩ (.var ⟨298, 20, 298, 24⟩ 1) (.var ⟨298, 25, 298, 26⟩ 6)) (.cst ⟨298, 28, 298, 29⟩ 0 (.int 0))) .nil))) (.cons (.if_ ⟨299, 8, 300, 63⟩ (.cmp ⟨299, 11, 299, 37⟩ .lt (.idx ⟨299, 11, 299, 33⟩ (.call ⟨299, 11, 299, 30⟩ ⟨299, 11, 299, 19⟩ 14 (.cons (.var ⟨299, 20, 299, 24⟩ 7) (.cons (.var ⟨299, 26, 299, 29⟩ 4) .nil))) (.cst ⟨299, 31, 299, 32⟩ 0 (.int 0))) (.cst ⟨299, 36, 299, 37⟩ 0 (.int 0))) (.cons (.asg ⟨300, 12, 300, 63⟩ (.name ⟨300, 12, 300, 16⟩ 7) (.comp ⟨300, 19, 300, 63⟩ false sc13 [("factor", 11)] (.tup ⟨300, 20, 300, 43⟩ 0 (.cons (.neg ⟨300, 21, 300, 31⟩ (.idx ⟨300, 22, 300, 31⟩ (.var ⟨300, 22, 300, 28⟩ 11) (.cst ⟨300, 29, 300, 30⟩ 0 (.int 0)))) (.cons (.idx ⟨300, 33, 300, 42⟩ (.var ⟨300, 33, 300, 39⟩ 11) (.cst ⟨300, 40, 300, 41⟩ 0 (.int 1))) .nil))) (.name ⟨300, 48, 300, 54⟩ 11) (.of (.var ⟨300, 58, 300, 62⟩ 7)) .nil)) .nil) .nil) (.cons (.expr ⟨301, 8, 301, 89⟩ (.bm ⟨301, 8, 301, 89⟩ ⟨301, 8, 301, 19⟩ .append false (.var ⟨301, 8, 301, 12⟩ 5) (.cons (.tup ⟨301, 20, 301, 88⟩ 0 (.cons (.var ⟨301, 21, 301, 25⟩ 7) (.cons (.call ⟨301, 27, 301, 87⟩ ⟨301, 27, 301, 35⟩ 9 (.cons (.call ⟨301, 36, 301, 59⟩ ⟨301, 36, 301, 44⟩ 14 (.cons (.var ⟨301, 45, 301, 49⟩ 7) (.cons (.var ⟨301, 51, 301, 58⟩ 3) .nil))) (.cons (.tup ⟨301, 61, 301, 86⟩ 0 (.cons (.neg ⟨301, 62, 301, 82⟩ (.bin ⟨301, 64, 301, 81⟩ false .mod (.idx ⟨301, 64, 301, 77⟩ (.var ⟨301, 64, 301, 69⟩ 2) (.bin ⟨301, 70, 301, 76⟩ false .add (.cst ⟨301, 70, 301, 72⟩ 0 (.int 30)) (.var ⟨301, 75, 301, 76⟩ 6))) (.cst ⟨301, 80, 301, 81⟩ 0 (.int 3)))) (.cons (.cst ⟨301, 84, 301, 85⟩ 0 (.int 1)) .nil))) .nil))) .nil))) .nil))) .nil)))) (.cons (.asg ⟨302, 4, 302, 31⟩ (.name ⟨302, 4, 302, 8⟩ 8) (.call ⟨302, 11, 302, 31⟩ ⟨302, 11, 302, 19⟩ 14 (.cons (.var ⟨302, 20, 302, 25⟩ 0) (.cons (.var ⟨302, 27, 302, 30⟩ 4) .nil)))) (.cons (.asg ⟨303, 4, 303, 23⟩ (.name ⟨303, 4, 303, 9⟩ 0) (.bi ⟨303, 12, 303, 23⟩ ⟨303, 12, 303, 16⟩ .list1 true (.cons (.var ⟨303, 17, 303, 22⟩ 0) .nil))) (.cons (.if_ ⟨304, 4, 306, 82⟩ (.cmp ⟨304, 7, 304, 19⟩ .ge (.idx ⟨304, 7, 304, 14⟩ (.var ⟨304, 7, 304, 11⟩ 8) (.cst ⟨304, 12, 304, 13⟩ 0 (.int 0))) (.cst ⟨304, 18, 304, 19⟩ 0 (.int 0))) (.cons (.asg ⟨305, 8, 305, 35⟩ (.name ⟨305, 8, 305, 10⟩ 9) (.bin ⟨305, 13, 305, 35⟩ false .mod (.idx ⟨305, 13, 305, 22⟩ (.var ⟨305, 13, 305, 18⟩ 2) (.cst ⟨305, 19, 305, 21⟩ 0 (.int 38))) (.bi ⟨305, 25, 305, 35⟩ ⟨305, 25, 305, 28⟩ .len false (.cons (.var ⟨305, 29, 305, 34⟩ 0) .nil)))) (.cons (.asg ⟨306, 8, 306, 82⟩ (.sub ⟨306, 8, 306, 17⟩ (.var ⟨306, 8, 306, 13⟩ 0) (.var ⟨306, 14, 306, 16⟩ 9)) (.call ⟨306, 20, 306, 82⟩ ⟨306, 20, 306, 28⟩ 9 (.cons (.idx ⟨306, 29, 306, 38⟩ (.var ⟨306, 29, 306, 34⟩ 0) (.var ⟨306, 35, 306, 37⟩ 9)) (.cons (.call ⟨306, 40, 306, 81⟩ ⟨306, 40, 306, 48⟩ 10 (.cons (.tup ⟨306, 49, 306, 56⟩ 0 (.cons (.neg ⟨306, 50, 306, 52⟩ (.cst ⟨306, 51, 306, 52⟩ 0 (.int 2))) (.cons (.cst ⟨306, 54, 306, 55⟩ 0 (.int 1)) .nil))) (.cons (.call ⟨306, 58, 306, 80⟩ ⟨306, 58, 306, 66⟩ 9 (.cons (.var ⟨306, 67, 306, 71⟩ 8) (.cons (.tup ⟨306, 73, 306, 79⟩ 0 (.cons (.cst ⟨306, 74, 306, 75⟩ 0 (.int 1)) (.cons (.cst ⟨306, 77, 306, 78⟩ 0 (.int 1)) .nil))) .nil))) .nil))) .nil)))) .nil)) .nil) (.cons (.frz 0) (.cons (.frz 5) (.cons (.ret ⟨307, 4, 307, 24⟩ (.lst ⟨307, 11, 307, 24⟩ false (.cons (.var ⟨307, 12, 307, 17⟩ 0) (.cons (.var ⟨307, 19, 307, 23⟩ 5) .nil)))) .nil)))))))))))
def ce24_0 : E := (.tup ⟨293, 15, 293, 32⟩ 0 (.cons (.bin ⟨293, 16, 293, 28⟩ false .mod (.idx ⟨293, 16, 293, 24⟩ (.var ⟨293, 16, 293, 21⟩ 2) (.var ⟨293, 22, 293, 23⟩ 10)) (.cst ⟨293, 27, 293, 28⟩ 0 (.int 3))) (.cons (.cst ⟨293, 30, 293, 31⟩ 0 (.int 1)) .nil)))
def ct24_0 : Tg := (.name ⟨293, 37, 293, 38⟩ 10)
def ci24_0 : Es := .nil
def ce24_1 : E := (.tup ⟨294, 11, 294, 33⟩ 0 (.cons (.bin ⟨294, 12, 294, 29⟩ false .mod (.idx ⟨294, 12, 294, 25⟩ (.var ⟨294, 12, 294, 17⟩ 2) (.bin ⟨294, 18, 294, 24⟩ false .add (.cst ⟨294, 18, 294, 20⟩ 0 (.int 20)) (.var ⟨294, 23, 294, 24⟩ 10))) (.cst ⟨294, 28, 294, 29⟩ 0 (.int 3))) (.cons (.cst ⟨294, 31, 294, 32⟩ 0 (.int 1)) .nil)))
def ct24_1 : Tg := (.name ⟨294, 38, 294, 39⟩ 10)
def ci24_1 : Es := .nil
def ce24_2 : E := (.tup ⟨300, 20, 300, 43⟩ 0 (.cons (.neg ⟨300, 21, 300, 31⟩ (.idx ⟨300, 22, 300, 31⟩ (.var ⟨300, 22, 300, 28⟩ 11) (.cst ⟨300, 29, 300, 30⟩ 0 (.int 0)))) (.cons (.idx ⟨300, 33, 300, 42⟩ (.var ⟨300, 33, 300, 39⟩ 11) (.cst ⟨300, 40, 300, 41⟩ 0 (.int 1))) .nil)))
def ct24_2 : Tg := (.name ⟨300, 48, 300, 54⟩ 11)
def ci24_2 : Es := .nil
def lt24_0 : Tg := (.name ⟨297, 8, 297, 9⟩ 6)
def lb24_0 : Ss := (.cons (.asg ⟨298, 8, 298, 31⟩ (.name ⟨298, 8, 298, 12⟩ 7) (.bi ⟨298, 15, 298, 31⟩ ⟨298, 15, 298, 19⟩ .list1 false (.cons (.idx ⟨298, 20, 298, 30⟩ (.idx ⟨298, 20, 298, 27⟩ (.var ⟨298, 20, 298, 24⟩ 1) (.var ⟨298, 25, 298, 26⟩ 6)) (.cst ⟨298, 28, 298, 29⟩ 0 (.int 0))) .nil))) (.cons (.if_ ⟨299, 8, 300, 63⟩ (.cmp ⟨299, 11, 299, 37⟩ .lt (.idx ⟨299, 11, 299, 33⟩ (.call ⟨299, 11, 299, 30⟩ ⟨299, 11, 299, 19⟩ 14 (.cons (.var ⟨299, 20, 299, 24⟩ 7) (.cons (.var ⟨299, 26, 299, 29⟩ 4) .nil))) (.cst ⟨299, 31, 299, 32⟩ 0 (.int 0))) (.cst ⟨299, 36, 299, 37⟩ 0 (.int 0))) (.cons (.asg ⟨300, 12, 300, 63⟩ (.name ⟨300, 12, 300, 16⟩ 7) (.comp ⟨300, 19, 300, 63⟩ false sc13 [("factor", 11)] (.tup ⟨300, 20, 300, 43⟩ 0 (.cons (.neg ⟨300, 21, 300, 31⟩ (.idx ⟨300, 22, 300, 31⟩ (.var ⟨300, 22, 300, 28⟩ 11) (.cst ⟨300, 29, 300, 30⟩ 0 (.int 0)))) (.cons (.idx ⟨300, 33, 300, 42⟩ (.var ⟨300, 33, 300, 39⟩ 11) (.cst ⟨300, 40, 300, 41⟩ 0 (.int 1))) .nil))) (.name ⟨300, 48, 300, 54⟩ 11) (.of (.var ⟨300, 58, 300, 62⟩ 7)) .nil)) .nil) .nil) (.cons (.expr ⟨301, 8, 301, 89⟩ (.bm ⟨301, 8, 301, 89⟩ ⟨301, 8, 301, 19⟩ .append false (.var ⟨301, 8, 301, 12⟩ 5) (.cons (.tup ⟨301, 20, 301, 88⟩ 0 (.cons (.var ⟨301, 21, 301, 25⟩ 7) (.cons (.call ⟨301, 27, 301, 87⟩ ⟨301, 27, 301, 35⟩ 9 (.cons (.call ⟨301, 36, 301, 59⟩ ⟨301, 36, 301, 44⟩ 14 (.cons (.var ⟨301, 45, 301, 49⟩ 7) (.cons (.var ⟨301, 51, 301, 58⟩ 3) .nil))) (.cons (.tup ⟨301, 61, 301, 86⟩ 0 (.cons (.neg ⟨301, 62, 301, 82⟩ (.bin ⟨301, 64, 301, 81⟩ false .mod (.idx ⟨301, 64, 301, 77⟩ (.var ⟨301, 64, 301, 69⟩ 2) (.bin ⟨301, 70, 301, 76⟩ false .add (.cst ⟨301, 70, 301, 72⟩ 0 (.int 30)) (.var ⟨301, 75, 301, 76⟩ 6))) (.cst ⟨301, 80, 301, 81⟩ 0 (.int 3)))) (.cons (.cst ⟨301, 84, 301, 85⟩ 0 (.int 1)) .nil))) .nil))) .nil))) .nil))) .nil)))
def f24 : Fn := ⟨3, 12, [], b24, true⟩
/-- law -/
def n25 : List Str := (["script", "shape", "many", "count", "lines", "draws", "mode", "world", "costs", "rows", "passed", "answer", "line", "bound"] : List (Str))
def p25 : List Str := (["script"] : List (Str))
def b25 : Ss := (.cons (.asg ⟨309, 4, 309, 47⟩ (.name ⟨309, 4, 309, 9⟩ 1) (.call ⟨309, 12, 309, 47⟩ ⟨309, 12, 309, 22⟩ 6 (.cons (.call ⟨309, 23, 309, 43⟩ ⟨309, 23, 309, 32⟩ 5 (.cons (.var ⟨309, 33, 309, 39⟩ 0) (.cons (.cst ⟨309, 41, 309, 42⟩ 0 (.int 0)) .nil))) (.cons (.cst ⟨309, 45, 309, 46⟩ 0 (.int 4)) .nil)))) (.cons (.asg ⟨310, 4, 310, 49⟩ (.name ⟨310, 4, 310, 8⟩ 2) (.idx ⟨310, 11, 310, 49⟩ (.lst ⟨310, 11, 310, 35⟩ false (.cons (.cst ⟨310, 12, 310, 13⟩ 0 (.int 2)) (.cons (.cst ⟨310, 15, 310, 16⟩ 0 (.int 3)) (.cons (.cst ⟨310, 18, 310, 19⟩ 0 (.int 1)) (.cons (.cst ⟨310, 21, 310, 22⟩ 0 (.int 4)) (.cons (.cst ⟨310, 24, 310, 25⟩ 0 (.int 2)) (.cons (.cst ⟨310, 27, 310, 28⟩ 0 (.int 0)) (.cons (.cst ⟨310, 30, 310, 31⟩ 0 (.int 5)) (.cons (.cst ⟨310, 33, 310, 34⟩ 0 (.int 3)) .nil))))))))) (.bin ⟨310, 36, 310, 48⟩ false .mod (.idx ⟨310, 36, 310, 44⟩ (.var ⟨310, 36, 310, 41⟩ 1) (.cst ⟨310, 42, 310, 43⟩ 0 (.int 0))) (.cst ⟨310, 47, 310, 48⟩ 0 (.int 8))))) (.cons (.asg ⟨311, 4, 311, 50⟩ (.name ⟨311, 4, 311, 9⟩ 3) (.idx ⟨311, 12, 311, 50⟩ (.lst ⟨311, 12, 311, 36⟩ false (.cons (.cst ⟨311, 13, 311, 14⟩ 0 (.int 2)) (.cons (.cst ⟨311, 16, 311, 17⟩ 0 (.int 3)) (.cons (.cst ⟨311, 19, 311, 20⟩ 0 (.int 1)) (.cons (.cst ⟨311, 22, 311, 23⟩ 0 (.int 4)) (.cons (.cst ⟨311, 25, 311, 26⟩ 0 (.int 0)) (.cons (.cst ⟨311, 28, 311, 29⟩ 0 (.int 5)) (.cons (.cst ⟨311, 31, 311, 32⟩ 0 (.int 2)) (.cons (.cst ⟨311, 34, 311, 35⟩ 0 (.int 3)) .nil))))))))) (.bin ⟨311, 37, 311, 49⟩ false .mod (.idx ⟨311, 37, 311, 45⟩ (.var ⟨311, 37, 311, 42⟩ 1) (.cst ⟨311, 43, 311, 44⟩ 0 (.int 1))) (.cst ⟨311, 48, 311, 49⟩ 0 (.int 8))))) (.cons (.asg ⟨312, 4, 312, 84⟩ (.name ⟨312, 4, 312, 9⟩ 4) (.call ⟨312, 12, 312, 84⟩ ⟨312, 12, 312, 23⟩ 20 (.cons (.var ⟨312, 24, 312, 28⟩ 2) (.cons (.var ⟨312, 30, 312, 35⟩ 3) (.cons (.call ⟨312, 37, 312, 83⟩ ⟨312, 37, 312, 47⟩ 6 (.cons (.call ⟨312, 48, 312, 68⟩ ⟨312, 48, 312, 57⟩ 5 (.cons (.var ⟨312, 58, 312, 64⟩ 0) (.cons (.cst ⟨312, 66, 312, 67⟩ 0 (.int 1)) .nil))) (.cons (.bin ⟨312, 70, 312, 82⟩ false .mul (.var ⟨312, 70, 312, 74⟩ 2) (.var ⟨312, 77, 312, 82⟩ 3)) .nil))) .nil))))) (.cons (.asg ⟨313, 4, 313, 48⟩ (.name ⟨313, 4, 313, 9⟩ 5) (.call ⟨313, 12, 313, 48⟩ ⟨313, 12, 313, 22⟩ 6 (.cons (.call ⟨313, 23, 313, 43⟩ ⟨313, 23, 313, 32⟩ 5 (.cons (.var ⟨313, 33, 313, 39⟩ 0) (.cons (.cst ⟨313, 41, 313, 42⟩ 0 (.int 2)) .nil))) (.cons (.cst ⟨313, 45, 313, 47⟩ 0 (.int 40)) .nil)))) (.cons (.asg ⟨314, 4, 314, 23⟩ (.name ⟨314, 4, 314, 8⟩ 6) (.bin ⟨314, 11, 314, 23⟩ false .mod (.idx ⟨314, 11, 314, 19⟩ (.var ⟨314, 11, 314, 16⟩ 1) (.cst ⟨314, 17, 314, 18⟩ 0 (.int 2))) (.cst ⟨314, 22, 314, 23⟩ 0 (.int 4)))) (.cons (.if_ ⟨315, 4, 318, 48⟩ (.cmp ⟨315, 7, 315, 16⟩ .eq (.var ⟨315, 7, 315, 11⟩ 6) (.cst ⟨315, 15, 315, 16⟩ 0 (.int 1))) (.cons (.asg ⟨316, 8, 316, 45⟩ (.name ⟨316, 8, 316, 13⟩ 7) (.call ⟨316, 16, 316, 45⟩ ⟨316, 16, 316, 25⟩ 21 (.cons (.var ⟨316, 26, 316, 31⟩ 4) (.cons (.var ⟨316, 33, 316, 37⟩ 2) (.cons (.var ⟨316, 39, 316, 44⟩ 5) .nil))))) .nil) (.cons (.asg ⟨318, 8, 318, 48⟩ (.name ⟨318, 8, 318, 13⟩ 7) (.call ⟨318, 16, 318, 48⟩ ⟨318, 16, 318, 28⟩ 22 (.cons (.var ⟨318, 29, 318, 33⟩ 2) (.cons (.var ⟨318, 35, 318, 40⟩ 4) (.cons (.var ⟨318, 42, 318, 47⟩ 5) .nil))))) .nil)) (.cons (.if_ ⟨319, 4, 320, 56⟩ (.cmp ⟨319, 7, 319, 16⟩ .eq (.var ⟨319, 7, 319, 11⟩ 6) (.cst ⟨319, 15, 319, 16⟩ 0 (.int 2))) (.cons (.asg ⟨320, 8, 320, 56⟩ (.name ⟨320, 8, 320, 13⟩ 7) (.call ⟨320, 16, 320, 56⟩ ⟨320, 16, 320, 29⟩ 23 (.cons (.idx ⟨320, 30, 320, 38⟩ (.var ⟨320, 30, 320, 35⟩ 7) (.cst ⟨320, 36, 320, 37⟩ 0 (.int 0))) (.cons (.idx ⟨320, 40, 320, 48⟩ (.var ⟨320, 40, 320, 45⟩ 7) (.cst ⟨320, 46, 320, 47⟩ 0 (.int 1))) (.cons (.var ⟨320, 50, 320, 55⟩ 5) .nil))))) .nil) .nil) (.cons (.if_ ⟨321, 4, 322, 56⟩ (.and ⟨321, 7, 321, 29⟩ (.cons (.cmp ⟨321, 7, 321, 16⟩ .eq (.var ⟨321, 7, 321, 11⟩ 6) (.cst ⟨321, 15, 321, 16⟩ 0 (.int 3))) (.cons (.cmp ⟨321, 21, 321, 29⟩ .gt (.var ⟨321, 21, 321, 25⟩ 2) (.cst ⟨321, 28, 321, 29⟩ 0 (.int 0))) .nil))) (.cons (.asg ⟨322, 8, 322, 56⟩ (.name ⟨322, 8, 322, 13⟩ 7) (.call ⟨322, 16, 322, 56⟩ ⟨322, 16, 322, 29⟩ 24 (.cons (.idx ⟨322, 30, 322, 38⟩ (.var ⟨322, 30, 322, 35⟩ 7) (.cst ⟨322, 36, 322, 37⟩ 0 (.int 0))) (.cons (.idx ⟨322, 40, 322, 48⟩ (.var ⟨322, 40, 322, 45⟩ 7) (.cst ⟨322, 46, 322, 47⟩ 0 (.int 1))) (.cons (.var ⟨322, 50, 322, 55⟩ 5) .nil))))) .nil) .nil) (.cons (.asg ⟨323, 4, 323, 20⟩ (.name ⟨323, 4, 323, 9⟩ 8) (.idx ⟨323, 12, 323, 20⟩ (.var ⟨323, 12, 323, 17⟩ 7) (.cst ⟨323, 18, 323, 19⟩ 0 (.int 0)))) (.cons (.asg ⟨324, 4, 324, 19⟩ (.name ⟨324, 4, 324, 8⟩ 9) (.idx ⟨324, 11, 324, 19⟩ (.var ⟨324, 11, 324, 16⟩ 7) (.cst ⟨324, 17, 324, 18⟩ 0 (.int 1)))) (.cons (.asg ⟨325, 4, 325, 73⟩ (.name ⟨325, 4, 325, 10⟩ 10) (.lst ⟨325, 13, 325, 73⟩ false (.cons (.bi ⟨325, 14, 325, 25⟩ ⟨325, 14, 325, 18⟩ .list1 false (.cons (.var ⟨325, 19, 325, 24⟩ 8) .nil)) (.cons (.comp ⟨325, 27, 325, 72⟩ false sc14 [("line", 12), ("bound", 13)] (.tup ⟨325, 28, 325, 47⟩ 0 (.cons (.bi ⟨325, 29, 325, 39⟩ ⟨325, 29, 325, 33⟩ .list1 false (.cons (.var ⟨325, 34, 325, 38⟩ 12) .nil)) (.cons (.var ⟨325, 41, 325, 46⟩ 13) .nil))) (.tup ⟨325, 52, 325, 63⟩ 0 [(⟨325, 52, 325, 56⟩, 12), (⟨325, 58, 325, 63⟩, 13)]) (.of (.var ⟨325, 67, 325, 71⟩ 9)) .nil) .nil)))) (.cons (.asg ⟨326, 4, 326, 40⟩ (.name ⟨326, 4, 326, 10⟩ 11) (.call ⟨326, 13, 326, 40⟩ ⟨326, 13, 326, 18⟩ 4 (.cons (.idx ⟨326, 19, 326, 28⟩ (.var ⟨326, 19, 326, 25⟩ 10) (.cst ⟨326, 26, 326, 27⟩ 0 (.int 0))) (.cons (.idx ⟨326, 30, 326, 39⟩ (.var ⟨326, 30, 326, 36⟩ 10) (.cst ⟨326, 37, 326, 38⟩ 0 (.int 1))) .nil)))) (.cons (.if_ ⟨327, 4, 328, 20⟩ (.or ⟨327, 7, 327, 87⟩ (.cons (.cmp ⟨327, 7, 327, 25⟩ .ne (.idx ⟨327, 7, 327, 16⟩ (.var ⟨327, 7, 327, 13⟩ 10) (.cst ⟨327, 14, 327, 15⟩ 0 (.int 0))) (.var ⟨327, 20, 327, 25⟩ 8)) (.cons (.cmp ⟨327, 29, 327, 87⟩ .ne (.idx ⟨327, 29, 327, 38⟩ (.var ⟨327, 29, 327, 35⟩ 10) (.cst ⟨327, 36, 327, 37⟩ 0 (.int 1))) (.comp ⟨327, 42, 327, 87⟩ false sc14 [("line", 12), ("bound", 13)] (.tup ⟨327, 43, 327, 62⟩ 0 (.cons (.bi ⟨327, 44, 327, 54⟩ ⟨327, 44, 327, 48⟩ .list1 false (.cons (.var ⟨327, 49, 327, 53⟩ 12) .nil)) (.cons (.var ⟨327, 56, 327, 61⟩ 13) .nil))) (.tup ⟨327, 67, 327, 78⟩ 0 [(⟨327, 67, 327, 71⟩, 12), (⟨327, 73, 327, 78⟩, 13)]) (.of (.var ⟨327, 82, 327, 86⟩ 9)) .nil)) .nil))) (.cons (.ret ⟨328, 8, 328, 20⟩ (.cst ⟨328, 15, 328, 20⟩ 0 (.bl false))) .nil) .nil) (.cons (.if_ ⟨329, 4, 330, 20⟩ (.not ⟨329, 7, 329, 42⟩ (.call ⟨329, 11, 329, 42⟩ ⟨329, 11, 329, 21⟩ 19 (.cons (.var ⟨329, 22, 329, 27⟩ 8) (.cons (.var ⟨329, 29, 329, 33⟩ 9) (.cons (.var ⟨329, 35, 329, 41⟩ 11) .nil))))) (.cons (.ret ⟨330, 8, 330, 20⟩ (.cst ⟨330, 15, 330, 20⟩ 0 (.bl false))) .nil) .nil) (.cons (.if_ ⟨331, 4, 332, 60⟩ (.cmp ⟨331, 7, 331, 16⟩ .eq (.var ⟨331, 7, 331, 11⟩ 6) (.cst ⟨331, 15, 331, 16⟩ 0 (.int 1))) (.cons (.ret ⟨332, 8, 332, 60⟩ (.and ⟨332, 15, 332, 60⟩ (.cons (.cmp ⟨332, 15, 332, 34⟩ .eq (.idx ⟨332, 15, 332, 24⟩ (.var ⟨332, 15, 332, 21⟩ 11) (.cst ⟨332, 22, 332, 23⟩ 0 (.int 0))) (.cst ⟨332, 28, 332, 34⟩ 0 (.str "best"))) (.cons (.cmp ⟨332, 39, 332, 60⟩ .eq (.idx ⟨332, 39, 332, 48⟩ (.var ⟨332, 39, 332, 45⟩ 11) (.cst ⟨332, 46, 332, 47⟩ 0 (.int 1))) (.idx ⟨332, 52, 332, 60⟩ (.var ⟨332, 52, 332, 57⟩ 7) (.cst ⟨332, 58, 332, 59⟩ 0 (.int 2)))) .nil)))) .nil) .nil) (.cons (.if_ ⟨333, 4, 334, 33⟩ (.cmp ⟨333, 7, 333, 16⟩ .eq (.var ⟨333, 7, 333, 11⟩ 6) (.cst ⟨333, 15, 333, 16⟩ 0 (.int 2))) (.cons (.ret ⟨334, 8, 334, 33⟩ (.cmp ⟨334, 15, 334, 33⟩ .eq (.idx ⟨334, 15, 334, 24⟩ (.var ⟨334, 15, 334, 21⟩ 11) (.cst ⟨334, 22, 334, 23⟩ 0 (.int 0))) (.cst ⟨334, 28, 334, 33⟩ 0 (.str "bar")))) .nil) .nil) (.cons (.ret ⟨335, 4, 335, 55⟩ (.or ⟨335, 11, 335, 55⟩ (.cons (.cmp ⟨335, 11, 335, 20⟩ .eq (.var ⟨335, 11, 335, 15⟩ 6) (.cst ⟨335, 19, 335, 20⟩ 0 (.int 0))) (.cons (.cmp ⟨335, 24, 335, 33⟩ .eq (.var ⟨335, 24, 335, 28⟩ 2) (.cst ⟨335, 32, 335, 33⟩ 0 (.int 0))) (.cons (.cmp ⟨335, 37, 335, 55⟩ .eq (.idx ⟨335, 37, 335, 46⟩ (.var ⟨335, 37, 335, 43⟩ 11) (.cst ⟨335, 44, 335, 45⟩ 0 (.int 0))) (.cst ⟨335, 50, 335, 55⟩ 0 (.str "ray"))) .nil))))) .nil))))))))))))))))))
def ce25_0 : E := (.tup ⟨325, 28, 325, 47⟩ 0 (.cons (.bi ⟨325, 29, 325, 39⟩ ⟨325, 29, 325, 33⟩ .list1 false (.cons (.var ⟨325, 34, 325, 38⟩ 12) .nil)) (.cons (.var ⟨325, 41, 325, 46⟩ 13) .nil)))
def ct25_0 : Tg := (.tup ⟨325, 52, 325, 63⟩ 0 [(⟨325, 52, 325, 56⟩, 12), (⟨325, 58, 325, 63⟩, 13)])
def ci25_0 : Es := .nil
def ce25_1 : E := (.tup ⟨327, 43, 327, 62⟩ 0 (.cons (.bi ⟨327, 44, 327, 54⟩ ⟨327, 44, 327, 48⟩ .list1 false (.cons (.var ⟨327, 49, 327, 53⟩ 12) .nil)) (.cons (.var ⟨327, 56, 327, 61⟩ 13) .nil)))
def ct25_1 : Tg := (.tup ⟨327, 67, 327, 78⟩ 0 [(⟨327, 67, 327, 71⟩, 12), (⟨327, 73, 327, 78⟩, 13)])
def ci25_1 : Es := .nil
def f25 : Fn := ⟨1, 14, [], b25, true⟩
/-- Table.__init__ -/
def n26 : List Str := (["self", "costs", "rows", "line", "bound", "k"] : List (Str))
def p26 : List Str := (["self", "costs", "rows"] : List (Str))
def b26 : Ss := (.cons (.asg ⟨37, 8, 37, 30⟩ (.attr ⟨37, 8, 37, 17⟩ (.var ⟨37, 8, 37, 12⟩ 0) 11) (.bi ⟨37, 20, 37, 30⟩ ⟨37, 20, 37, 23⟩ .len false (.cons (.var ⟨37, 24, 37, 29⟩ 1) .nil))) (.cons (.asg ⟨38, 8, 38, 90⟩ (.attr ⟨38, 8, 38, 17⟩ (.var ⟨38, 8, 38, 12⟩ 0) 10) (.comp ⟨38, 20, 38, 90⟩ true sc15 [("line", 3), ("bound", 4)] (.call ⟨38, 21, 38, 65⟩ ⟨38, 21, 38, 30⟩ 3 (.cons (.bin ⟨38, 31, 38, 64⟩ false .add (.lst ⟨38, 31, 38, 51⟩ false (.cons (.call ⟨38, 32, 38, 50⟩ ⟨38, 32, 38, 37⟩ 1 (.cons (.glob ⟨38, 38, 38, 42⟩ 0) (.cons (.var ⟨38, 44, 38, 49⟩ 4) .nil))) .nil)) (.bi ⟨38, 54, 38, 64⟩ ⟨38, 54, 38, 58⟩ .list1 false (.cons (.var ⟨38, 59, 38, 63⟩ 3) .nil))) .nil)) (.tup ⟨38, 70, 38, 81⟩ 0 [(⟨38, 70, 38, 74⟩, 3), (⟨38, 76, 38, 81⟩, 4)]) (.of (.var ⟨38, 85, 38, 89⟩ 2)) .nil)) (.cons (.expr ⟨39, 8, 39, 57⟩ (.bm ⟨39, 8, 39, 57⟩ ⟨39, 8, 39, 24⟩ .append false (.attr ⟨39, 8, 39, 17⟩ (.var ⟨39, 8, 39, 12⟩ 0) 10) (.cons (.call ⟨39, 25, 39, 56⟩ ⟨39, 25, 39, 34⟩ 3 (.cons (.bin ⟨39, 35, 39, 55⟩ false .add (.lst ⟨39, 35, 39, 41⟩ false (.cons (.glob ⟨39, 36, 39, 40⟩ 0) .nil)) (.bi ⟨39, 44, 39, 55⟩ ⟨39, 44, 39, 48⟩ .list1 false (.cons (.var ⟨39, 49, 39, 54⟩ 1) .nil))) .nil)) .nil))) (.cons (.asg ⟨40, 8, 40, 62⟩ (.attr ⟨40, 8, 40, 18⟩ (.var ⟨40, 8, 40, 12⟩ 0) 12) (.comp ⟨40, 21, 40, 62⟩ true sc16 [("k", 5)] (.bin ⟨40, 22, 40, 35⟩ false .add (.attr ⟨40, 22, 40, 31⟩ (.var ⟨40, 22, 40, 26⟩ 0) 11) (.var ⟨40, 34, 40, 35⟩ 5)) (.name ⟨40, 40, 40, 41⟩ 5) (.rng1 ⟨40, 45, 40, 61⟩ ⟨40, 45, 40, 50⟩ (.bi ⟨40, 51, 40, 60⟩ ⟨40, 51, 40, 54⟩ .len false (.cons (.var ⟨40, 55, 40, 59⟩ 2) .nil))) .nil)) (.cons (.asg ⟨41, 8, 41, 43⟩ (.attr ⟨41, 8, 41, 18⟩ (.var ⟨41, 8, 41, 12⟩ 0) 13) (.lrng ⟨41, 21, 41, 43⟩ ⟨41, 21, 41, 25⟩ ⟨41, 26, 41, 42⟩ ⟨41, 26, 41, 31⟩ true (.attr ⟨41, 32, 41, 41⟩ (.var ⟨41, 32, 41, 36⟩ 0) 11))) .nil)))))
def ce26_0 : E := (.call ⟨38, 21, 38, 65⟩ ⟨38, 21, 38, 30⟩ 3 (.cons (.bin ⟨38, 31, 38, 64⟩ false .add (.lst ⟨38, 31, 38, 51⟩ false (.cons (.call ⟨38, 32, 38, 50⟩ ⟨38, 32, 38, 37⟩ 1 (.cons (.glob ⟨38, 38, 38, 42⟩ 0) (.cons (.var ⟨38, 44, 38, 49⟩ 4) .nil))) .nil)) (.bi ⟨38, 54, 38, 64⟩ ⟨38, 54, 38, 58⟩ .list1 false (.cons (.var ⟨38, 59, 38, 63⟩ 3) .nil))) .nil))
def ct26_0 : Tg := (.tup ⟨38, 70, 38, 81⟩ 0 [(⟨38, 70, 38, 74⟩, 3), (⟨38, 76, 38, 81⟩, 4)])
def ci26_0 : Es := .nil
def ce26_1 : E := (.bin ⟨40, 22, 40, 35⟩ false .add (.attr ⟨40, 22, 40, 31⟩ (.var ⟨40, 22, 40, 26⟩ 0) 11) (.var ⟨40, 34, 40, 35⟩ 5))
def ct26_1 : Tg := (.name ⟨40, 40, 40, 41⟩ 5)
def ci26_1 : Es := .nil
def f26 : Fn := ⟨3, 6, [], b26, false⟩
/-- Table.wrong -/
def n27 : List Str := (["self", "found", "last", "k"] : List (Str))
def p27 : List Str := (["self"] : List (Str))
def b27 : Ss := (.cons (.asg ⟨44, 8, 44, 86⟩ (.name ⟨44, 8, 44, 13⟩ 1) (.comp ⟨44, 16, 44, 86⟩ false sc16 [("k", 3)] (.idx ⟨44, 17, 44, 30⟩ (.attr ⟨44, 17, 44, 27⟩ (.var ⟨44, 17, 44, 21⟩ 0) 12) (.var ⟨44, 28, 44, 29⟩ 3)) (.name ⟨44, 35, 44, 36⟩ 3) (.rng1 ⟨44, 40, 44, 62⟩ ⟨44, 40, 44, 45⟩ (.bi ⟨44, 46, 44, 61⟩ ⟨44, 46, 44, 49⟩ .len false (.cons (.attr ⟨44, 50, 44, 60⟩ (.var ⟨44, 50, 44, 54⟩ 0) 12) .nil))) (.cons (.cmp ⟨44, 66, 44, 85⟩ .lt (.idx ⟨44, 66, 44, 81⟩ (.idx ⟨44, 66, 44, 78⟩ (.attr ⟨44, 66, 44, 75⟩ (.var ⟨44, 66, 44, 70⟩ 0) 10) (.var ⟨44, 76, 44, 77⟩ 3)) (.cst ⟨44, 79, 44, 80⟩ 0 (.int 1))) (.cst ⟨44, 84, 44, 85⟩ 0 (.int 0))) .nil))) (.cons (.asg ⟨45, 8, 45, 28⟩ (.name ⟨45, 8, 45, 12⟩ 2) (.idx ⟨45, 15, 45, 28⟩ (.attr ⟨45, 15, 45, 24⟩ (.var ⟨45, 15, 45, 19⟩ 0) 10) (.neg ⟨45, 25, 45, 27⟩ (.cst ⟨45, 26, 45, 27⟩ 0 (.int 1))))) (.cons (.asg ⟨46, 8, 46, 84⟩ (.name ⟨46, 8, 46, 13⟩ 1) (.bin ⟨46, 16, 46, 84⟩ false .add (.var ⟨46, 16, 46, 21⟩ 1) (.comp ⟨46, 24, 46, 84⟩ false sc17 [("k", 3)] (.idx ⟨46, 25, 46, 38⟩ (.attr ⟨46, 25, 46, 35⟩ (.var ⟨46, 25, 46, 29⟩ 0) 13) (.var ⟨46, 36, 46, 37⟩ 3)) (.name ⟨46, 43, 46, 44⟩ 3) (.rng1 ⟨46, 48, 46, 64⟩ ⟨46, 48, 46, 53⟩ (.attr ⟨46, 54, 46, 63⟩ (.var ⟨46, 54, 46, 58⟩ 0) 11)) (.cons (.cmp ⟨46, 68, 46, 83⟩ .lt (.idx ⟨46, 68, 46, 79⟩ (.var ⟨46, 68, 46, 72⟩ 2) (.bin ⟨46, 73, 46, 78⟩ false .add (.var ⟨46, 73, 46, 74⟩ 3) (.cst ⟨46, 77, 46, 78⟩ 0 (.int 2)))) (.cst ⟨46, 82, 46, 83⟩ 0 (.int 0))) .nil)))) (.cons (.if_ ⟨47, 8, 48, 23⟩ (.cmp ⟨47, 11, 47, 22⟩ .eq (.var ⟨47, 11, 47, 16⟩ 1) (.lst ⟨47, 20, 47, 22⟩ false .nil)) (.cons (.ret ⟨48, 12, 48, 23⟩ (.cst ⟨48, 19, 48, 23⟩ 0 .non)) .nil) .nil) (.cons (.ret ⟨49, 8, 49, 25⟩ (.bi ⟨49, 15, 49, 25⟩ ⟨49, 15, 49, 18⟩ .min1 false (.cons (.var ⟨49, 19, 49, 24⟩ 1) .nil))) .nil)))))
def ce27_0 : E := (.idx ⟨44, 17, 44, 30⟩ (.attr ⟨44, 17, 44, 27⟩ (.var ⟨44, 17, 44, 21⟩ 0) 12) (.var ⟨44, 28, 44, 29⟩ 3))
def ct27_0 : Tg := (.name ⟨44, 35, 44, 36⟩ 3)
def ci27_0 : Es := (.cons (.cmp ⟨44, 66, 44, 85⟩ .lt (.idx ⟨44, 66, 44, 81⟩ (.idx ⟨44, 66, 44, 78⟩ (.attr ⟨44, 66, 44, 75⟩ (.var ⟨44, 66, 44, 70⟩ 0) 10) (.var ⟨44, 76, 44, 77⟩ 3)) (.cst ⟨44, 79, 44, 80⟩ 0 (.int 1))) (.cst ⟨44, 84, 44, 85⟩ 0 (.int 0))) .nil)
def ce27_1 : E := (.idx ⟨46, 25, 46, 38⟩ (.attr ⟨46, 25, 46, 35⟩ (.var ⟨46, 25, 46, 29⟩ 0) 13) (.var ⟨46, 36, 46, 37⟩ 3))
def ct27_1 : Tg := (.name ⟨46, 43, 46, 44⟩ 3)
def ci27_1 : Es := (.cons (.cmp ⟨46, 68, 46, 83⟩ .lt (.idx ⟨46, 68, 46, 79⟩ (.var ⟨46, 68, 46, 72⟩ 2) (.bin ⟨46, 73, 46, 78⟩ false .add (.var ⟨46, 73, 46, 74⟩ 3) (.cst ⟨46, 77, 46, 78⟩ 0 (.int 2)))) (.cst ⟨46, 82, 46, 83⟩ 0 (.int 0))) .nil)
def f27 : Fn := ⟨1, 4, [], b27, true⟩
/-- Table.outer_partner -/
def n28 : List Str := (["self", "at", "best", "k"] : List (Str))
def p28 : List Str := (["self", "at"] : List (Str))
def b28 : Ss := (.cons (.asg ⟨52, 8, 52, 19⟩ (.name ⟨52, 8, 52, 12⟩ 2) (.cst ⟨52, 15, 52, 19⟩ 0 .non)) (.cons (.for_ ⟨53, 8, 55, 24⟩ (.name ⟨53, 12, 53, 13⟩ 3) (.rng1 ⟨53, 17, 53, 33⟩ ⟨53, 17, 53, 22⟩ (.attr ⟨53, 23, 53, 32⟩ (.var ⟨53, 23, 53, 27⟩ 0) 11)) (.cons (.if_ ⟨54, 12, 55, 24⟩ (.and ⟨54, 15, 54, 94⟩ (.cons (.cmp ⟨54, 15, 54, 39⟩ .gt (.idx ⟨54, 15, 54, 35⟩ (.idx ⟨54, 15, 54, 28⟩ (.attr ⟨54, 15, 54, 24⟩ (.var ⟨54, 15, 54, 19⟩ 0) 10) (.var ⟨54, 25, 54, 27⟩ 1)) (.bin ⟨54, 29, 54, 34⟩ false .add (.var ⟨54, 29, 54, 30⟩ 3) (.cst ⟨54, 33, 54, 34⟩ 0 (.int 2)))) (.cst ⟨54, 38, 54, 39⟩ 0 (.int 0))) (.cons (.or ⟨54, 45, 54, 93⟩ (.cons (.cmp ⟨54, 45, 54, 57⟩ .isN (.var ⟨54, 45, 54, 49⟩ 2) (.cst ⟨54, 53, 54, 57⟩ 0 .non)) (.cons (.cmp ⟨54, 61, 54, 93⟩ .lt (.idx ⟨54, 61, 54, 74⟩ (.attr ⟨54, 61, 54, 71⟩ (.var ⟨54, 61, 54, 65⟩ 0) 13) (.var ⟨54, 72, 54, 73⟩ 3)) (.idx ⟨54, 77, 54, 93⟩ (.attr ⟨54, 77, 54, 87⟩ (.var ⟨54, 77, 54, 81⟩ 0) 13) (.var ⟨54, 88, 54, 92⟩ 2))) .nil))) .nil))) (.cons (.asg ⟨55, 16, 55, 24⟩ (.name ⟨55, 16, 55, 20⟩ 2) (.var ⟨55, 23, 55, 24⟩ 3)) .nil) .nil) .nil)) (.cons (.ret ⟨56, 8, 56, 19⟩ (.var ⟨56, 15, 56, 19⟩ 2)) .nil)))
def lt28_0 : Tg := (.name ⟨53, 12, 53, 13⟩ 3)
def lb28_0 : Ss := (.cons (.if_ ⟨54, 12, 55, 24⟩ (.and ⟨54, 15, 54, 94⟩ (.cons (.cmp ⟨54, 15, 54, 39⟩ .gt (.idx ⟨54, 15, 54, 35⟩ (.idx ⟨54, 15, 54, 28⟩ (.attr ⟨54, 15, 54, 24⟩ (.var ⟨54, 15, 54, 19⟩ 0) 10) (.var ⟨54, 25, 54, 27⟩ 1)) (.bin ⟨54, 29, 54, 34⟩ false .add (.var ⟨54, 29, 54, 30⟩ 3) (.cst ⟨54, 33, 54, 34⟩ 0 (.int 2)))) (.cst ⟨54, 38, 54, 39⟩ 0 (.int 0))) (.cons (.or ⟨54, 45, 54, 93⟩ (.cons (.cmp ⟨54, 45, 54, 57⟩ .isN (.var ⟨54, 45, 54, 49⟩ 2) (.cst ⟨54, 53, 54, 57⟩ 0 .non)) (.cons (.cmp ⟨54, 61, 54, 93⟩ .lt (.idx ⟨54, 61, 54, 74⟩ (.attr ⟨54, 61, 54, 71⟩ (.var ⟨54, 61, 54, 65⟩ 0) 13) (.var ⟨54, 72, 54, 73⟩ 3)) (.idx ⟨54, 77, 54, 93⟩ (.attr ⟨54, 77, 54, 87⟩ (.var ⟨54, 77, 54, 81⟩ 0) 13) (.var ⟨54, 88, 54, 92⟩ 2))) .nil))) .nil))) (.cons (.asg ⟨55, 16, 55, 24⟩ (.name ⟨55, 16, 55, 20⟩ 2) (.var ⟨55, 23, 55, 24⟩ 3)) .nil) .nil) .nil)
def f28 : Fn := ⟨2, 4, [], b28, true⟩
/-- Table.inner_partner -/
def n29 : List Str := (["self", "col", "best", "k"] : List (Str))
def p29 : List Str := (["self", "col"] : List (Str))
def b29 : Ss := (.cons (.asg ⟨59, 8, 59, 19⟩ (.name ⟨59, 8, 59, 12⟩ 2) (.cst ⟨59, 15, 59, 19⟩ 0 .non)) (.cons (.for_ ⟨60, 8, 62, 24⟩ (.name ⟨60, 12, 60, 13⟩ 3) (.rng1 ⟨60, 17, 60, 39⟩ ⟨60, 17, 60, 22⟩ (.bi ⟨60, 23, 60, 38⟩ ⟨60, 23, 60, 26⟩ .len false (.cons (.attr ⟨60, 27, 60, 37⟩ (.var ⟨60, 27, 60, 31⟩ 0) 12) .nil))) (.cons (.if_ ⟨61, 12, 62, 24⟩ (.and ⟨61, 15, 61, 95⟩ (.cons (.cmp ⟨61, 15, 61, 40⟩ .lt (.idx ⟨61, 15, 61, 36⟩ (.idx ⟨61, 15, 61, 27⟩ (.attr ⟨61, 15, 61, 24⟩ (.var ⟨61, 15, 61, 19⟩ 0) 10) (.var ⟨61, 25, 61, 26⟩ 3)) (.bin ⟨61, 28, 61, 35⟩ false .add (.var ⟨61, 28, 61, 31⟩ 1) (.cst ⟨61, 34, 61, 35⟩ 0 (.int 2)))) (.cst ⟨61, 39, 61, 40⟩ 0 (.int 0))) (.cons (.or ⟨61, 46, 61, 94⟩ (.cons (.cmp ⟨61, 46, 61, 58⟩ .isN (.var ⟨61, 46, 61, 50⟩ 2) (.cst ⟨61, 54, 61, 58⟩ 0 .non)) (.cons (.cmp ⟨61, 62, 61, 94⟩ .lt (.idx ⟨61, 62, 61, 75⟩ (.attr ⟨61, 62, 61, 72⟩ (.var ⟨61, 62, 61, 66⟩ 0) 12) (.var ⟨61, 73, 61, 74⟩ 3)) (.idx ⟨61, 78, 61, 94⟩ (.attr ⟨61, 78, 61, 88⟩ (.var ⟨61, 78, 61, 82⟩ 0) 12) (.var ⟨61, 89, 61, 93⟩ 2))) .nil))) .nil))) (.cons (.asg ⟨62, 16, 62, 24⟩ (.name ⟨62, 16, 62, 20⟩ 2) (.var ⟨62, 23, 62, 24⟩ 3)) .nil) .nil) .nil)) (.cons (.ret ⟨63, 8, 63, 19⟩ (.var ⟨63, 15, 63, 19⟩ 2)) .nil)))
def lt29_0 : Tg := (.name ⟨60, 12, 60, 13⟩ 3)
def lb29_0 : Ss := (.cons (.if_ ⟨61, 12, 62, 24⟩ (.and ⟨61, 15, 61, 95⟩ (.cons (.cmp ⟨61, 15, 61, 40⟩ .lt (.idx ⟨61, 15, 61, 36⟩ (.idx ⟨61, 15, 61, 27⟩ (.attr ⟨61, 15, 61, 24⟩ (.var ⟨61, 15, 61, 19⟩ 0) 10) (.var ⟨61, 25, 61, 26⟩ 3)) (.bin ⟨61, 28, 61, 35⟩ false .add (.var ⟨61, 28, 61, 31⟩ 1) (.cst ⟨61, 34, 61, 35⟩ 0 (.int 2)))) (.cst ⟨61, 39, 61, 40⟩ 0 (.int 0))) (.cons (.or ⟨61, 46, 61, 94⟩ (.cons (.cmp ⟨61, 46, 61, 58⟩ .isN (.var ⟨61, 46, 61, 50⟩ 2) (.cst ⟨61, 54, 61, 58⟩ 0 .non)) (.cons (.cmp ⟨61, 62, 61, 94⟩ .lt (.idx ⟨61, 62, 61, 75⟩ (.attr ⟨61, 62, 61, 72⟩ (.var ⟨61, 62, 61, 66⟩ 0) 12) (.var ⟨61, 73, 61, 74⟩ 3)) (.idx ⟨61, 78, 61, 94⟩ (.attr ⟨61, 78, 61, 88⟩ (.var ⟨61, 78, 61, 82⟩ 0) 12) (.var ⟨61, 89, 61, 93⟩ 2))) .nil))) .nil))) (.cons (.asg ⟨62, 16, 62, 24⟩ (.name ⟨62, 16, 62, 20⟩ 2) (.var ⟨62, 23, 62, 24⟩ 3)) .nil) .nil) .nil)
def f29 : Fn := ⟨2, 4, [], b29, true⟩
/-- Table.turn -/
def n30 : List Str := (["self", "at", "col", "old", "sign", "fresh", "k", "row", "lead", "mixed", "entry", "j"] : List (Str))
def p30 : List Str := (["self", "at", "col"] : List (Str))
def b30 : Ss := (.cons (.asg ⟨66, 8, 66, 27⟩ (.name ⟨66, 8, 66, 11⟩ 3) (.idx ⟨66, 14, 66, 27⟩ (.attr ⟨66, 14, 66, 23⟩ (.var ⟨66, 14, 66, 18⟩ 0) 10) (.var ⟨66, 24, 66, 26⟩ 1))) (.cons (.asg ⟨67, 8, 67, 16⟩ (.name ⟨67, 8, 67, 12⟩ 4) (.cst ⟨67, 15, 67, 16⟩ 0 (.int 1))) (.cons (.if_ ⟨68, 8, 69, 21⟩ (.cmp ⟨68, 11, 68, 27⟩ .lt (.idx ⟨68, 11, 68, 23⟩ (.var ⟨68, 11, 68, 14⟩ 3) (.bin ⟨68, 15, 68, 22⟩ false .add (.var ⟨68, 15, 68, 18⟩ 2) (.cst ⟨68, 21, 68, 22⟩ 0 (.int 2)))) (.cst ⟨68, 26, 68, 27⟩ 0 (.int 0))) (.cons (.asg ⟨69, 12, 69, 21⟩ (.name ⟨69, 12, 69, 16⟩ 4) (.neg ⟨69, 19, 69, 21⟩ (.cst ⟨69, 20, 69, 21⟩ 0 (.int 1)))) .nil) .nil) (.cons (.asg ⟨70, 8, 70, 48⟩ (.name ⟨70, 8, 70, 13⟩ 5) (.comp ⟨70, 16, 70, 48⟩ true sc18 [("entry", 10)] (.bin ⟨70, 17, 70, 30⟩ false .mul (.neg ⟨70, 17, 70, 22⟩ (.var ⟨70, 18, 70, 22⟩ 4)) (.var ⟨70, 25, 70, 30⟩ 10)) (.name ⟨70, 35, 70, 40⟩ 10) (.of (.var ⟨70, 44, 70, 47⟩ 3)) .nil)) (.cons (.asg ⟨71, 8, 71, 38⟩ (.sub ⟨71, 8, 71, 16⟩ (.var ⟨71, 8, 71, 13⟩ 5) (.cst ⟨71, 14, 71, 15⟩ 0 (.int 0))) (.bin ⟨71, 19, 71, 38⟩ false .mul (.var ⟨71, 19, 71, 23⟩ 4) (.idx ⟨71, 26, 71, 38⟩ (.var ⟨71, 26, 71, 29⟩ 3) (.bin ⟨71, 30, 71, 37⟩ false .add (.var ⟨71, 30, 71, 33⟩ 2) (.cst ⟨71, 36, 71, 37⟩ 0 (.int 2)))))) (.cons (.asg ⟨72, 8, 72, 38⟩ (.sub ⟨72, 8, 72, 22⟩ (.var ⟨72, 8, 72, 13⟩ 5) (.bin ⟨72, 14, 72, 21⟩ false .add (.var ⟨72, 14, 72, 17⟩ 2) (.cst ⟨72, 20, 72, 21⟩ 0 (.int 2)))) (.bin ⟨72, 25, 72, 38⟩ false .mul (.var ⟨72, 25, 72, 29⟩ 4) (.idx ⟨72, 32, 72, 38⟩ (.var ⟨72, 32, 72, 35⟩ 3) (.cst ⟨72, 36, 72, 37⟩ 0 (.int 0))))) (.cons (.asg ⟨73, 8, 73, 29⟩ (.name ⟨73, 8, 73, 13⟩ 5) (.frz (.call ⟨73, 16, 73, 29⟩ ⟨73, 16, 73, 22⟩ 2 (.cons (.var ⟨73, 23, 73, 28⟩ 5) .nil)))) (.cons (.for_ ⟨74, 8, 81, 44⟩ (.name ⟨74, 12, 74, 13⟩ 6) (.rng1 ⟨74, 17, 74, 38⟩ ⟨74, 17, 74, 22⟩ (.bi ⟨74, 23, 74, 37⟩ ⟨74, 23, 74, 26⟩ .len false (.cons (.attr ⟨74, 27, 74, 36⟩ (.var ⟨74, 27, 74, 31⟩ 0) 10) .nil))) (.cons (.asg ⟨75, 12, 75, 30⟩ (.name ⟨75, 12, 75, 15⟩ 7) (.idx ⟨75, 18, 75, 30⟩ (.attr ⟨75, 18, 75, 27⟩ (.var ⟨75, 18, 75, 22⟩ 0) 10) (.var ⟨75, 28, 75, 29⟩ 6))) (.cons (.asg ⟨76, 12, 76, 31⟩ (.name ⟨76, 12, 76, 16⟩ 8) (.idx ⟨76, 19, 76, 31⟩ (.var ⟨76, 19, 76, 22⟩ 7) (.bin ⟨76, 23, 76, 30⟩ false .add (.var ⟨76, 23, 76, 26⟩ 2) (.cst ⟨76, 29, 76, 30⟩ 0 (.int 2))))) (.cons (.if_ ⟨77, 12, 81, 44⟩ (.and ⟨77, 15, 77, 36⟩ (.cons (.cmp ⟨77, 15, 77, 22⟩ .ne (.var ⟨77, 15, 77, 16⟩ 6) (.var ⟨77, 20, 77, 22⟩ 1)) (.cons (.cmp ⟨77, 27, 77, 36⟩ .ne (.var ⟨77, 27, 77, 31⟩ 8) (.cst ⟨77, 35, 77, 36⟩ 0 (.int 0))) .nil))) (.cons (.asg ⟨78, 16, 78, 86⟩ (.name ⟨78, 16, 78, 21⟩ 9) (.comp ⟨78, 24, 78, 86⟩ true sc19 [("j", 11)] (.bin ⟨78, 25, 78, 60⟩ false .add (.bin ⟨78, 25, 78, 42⟩ false .mul (.idx ⟨78, 25, 78, 33⟩ (.var ⟨78, 25, 78, 30⟩ 5) (.cst ⟨78, 31, 78, 32⟩ 0 (.int 0))) (.idx ⟨78, 36, 78, 42⟩ (.var ⟨78, 36, 78, 39⟩ 7) (.var ⟨78, 40, 78, 41⟩ 11))) (.bin ⟨78, 45, 78, 60⟩ false .mul (.var ⟨78, 45, 78, 49⟩ 8) (.idx ⟨78, 52, 78, 60⟩ (.var ⟨78, 52, 78, 57⟩ 5) (.var ⟨78, 58, 78, 59⟩ 11)))) (.name ⟨78, 65, 78, 66⟩ 11) (.rng1 ⟨78, 70, 78, 85⟩ ⟨78, 70, 78, 75⟩ (.bi ⟨78, 76, 78, 84⟩ ⟨78, 76, 78, 79⟩ .len false (.cons (.var ⟨78, 80, 78, 83⟩ 7) .nil))) .nil)) (.cons (.asg ⟨79, 16, 79, 44⟩ (.sub ⟨79, 16, 79, 24⟩ (.var ⟨79, 16, 79, 21⟩ 9) (.cst ⟨79, 22, 79, 23⟩ 0 (.int 0))) (.bin ⟨79, 27, 79, 44⟩ false .mul (.idx ⟨79, 27, 79, 35⟩ (.var ⟨79, 27, 79, 32⟩ 5) (.cst ⟨79, 33, 79, 34⟩ 0 (.int 0))) (.idx ⟨79, 38, 79, 44⟩ (.var ⟨79, 38, 79, 41⟩ 7) (.cst ⟨79, 42, 79, 43⟩ 0 (.int 0))))) (.cons (.asg ⟨80, 16, 80, 54⟩ (.sub ⟨80, 16, 80, 30⟩ (.var ⟨80, 16, 80, 21⟩ 9) (.bin ⟨80, 22, 80, 29⟩ false .add (.var ⟨80, 22, 80, 25⟩ 2) (.cst ⟨80, 28, 80, 29⟩ 0 (.int 2)))) (.bin ⟨80, 33, 80, 54⟩ false .mul (.var ⟨80, 33, 80, 37⟩ 8) (.idx ⟨80, 40, 80, 54⟩ (.var ⟨80, 40, 80, 45⟩ 5) (.bin ⟨80, 46, 80, 53⟩ false .add (.var ⟨80, 46, 80, 49⟩ 2) (.cst ⟨80, 52, 80, 53⟩ 0 (.int 2)))))) (.cons (.asg ⟨81, 16, 81, 44⟩ (.sub ⟨81, 16, 81, 28⟩ (.attr ⟨81, 16, 81, 25⟩ (.var ⟨81, 16, 81, 20⟩ 0) 10) (.var ⟨81, 26, 81, 27⟩ 6)) (.frz (.call ⟨81, 31, 81, 44⟩ ⟨81, 31, 81, 37⟩ 2 (.cons (.var ⟨81, 38, 81, 43⟩ 9) .nil)))) .nil)))) .nil) .nil)))) (.cons (.asg ⟨82, 8, 82, 29⟩ (.sub ⟨82, 8, 82, 21⟩ (.attr ⟨82, 8, 82, 17⟩ (.var ⟨82, 8, 82, 12⟩ 0) 10) (.var ⟨82, 18, 82, 20⟩ 1)) (.var ⟨82, 24, 82, 29⟩ 5)) (.cons (.asg ⟨83, 8, 83, 75⟩ (.subs ⟨83, 8, 83, 39⟩ 0 [(⟨83, 8, 83, 22⟩, (.attr ⟨83, 8, 83, 18⟩ (.var ⟨83, 8, 83, 12⟩ 0) 12), (.var ⟨83, 19, 83, 21⟩ 1)), (⟨83, 24, 83, 39⟩, (.attr ⟨83, 24, 83, 34⟩ (.var ⟨83, 24, 83, 28⟩ 0) 13), (.var ⟨83, 35, 83, 38⟩ 2))]) (.tup ⟨83, 42, 83, 75⟩ 0 (.cons (.idx ⟨83, 43, 83, 58⟩ (.attr ⟨83, 43, 83, 53⟩ (.var ⟨83, 43, 83, 47⟩ 0) 13) (.var ⟨83, 54, 83, 57⟩ 2)) (.cons (.idx ⟨83, 60, 83, 74⟩ (.attr ⟨83, 60, 83, 70⟩ (.var ⟨83, 60, 83, 64⟩ 0) 12) (.var ⟨83, 71, 83, 73⟩ 1)) .nil)))) .nil))))))))))
def ce30_0 : E := (.bin ⟨70, 17, 70, 30⟩ false .mul (.neg ⟨70, 17, 70, 22⟩ (.var ⟨70, 18, 70, 22⟩ 4)) (.var ⟨70, 25, 70, 30⟩ 10))
def ct30_0 : Tg := (.name ⟨70, 35, 70, 40⟩ 10)
def ci30_0 : Es := .nil
def ce30_1 : E := (.bin ⟨78, 25, 78, 60⟩ false .add (.bin ⟨78, 25, 78, 42⟩ false .mul (.idx ⟨78, 25, 78, 33⟩ (.var ⟨78, 25, 78, 30⟩ 5) (.cst ⟨78, 31, 78, 32⟩ 0 (.int 0))) (.idx ⟨78, 36, 78, 42⟩ (.var ⟨78, 36, 78, 39⟩ 7) (.var ⟨78, 40, 78, 41⟩ 11))) (.bin ⟨78, 45, 78, 60⟩ false .mul (.var ⟨78, 45, 78, 49⟩ 8) (.idx ⟨78, 52, 78, 60⟩ (.var ⟨78, 52, 78, 57⟩ 5) (.var ⟨78, 58, 78, 59⟩ 11))))
def ct30_1 : Tg := (.name ⟨78, 65, 78, 66⟩ 11)
def ci30_1 : Es := .nil
def lt30_0 : Tg := (.name ⟨74, 12, 74, 13⟩ 6)
def lb30_0 : Ss := (.cons (.asg ⟨75, 12, 75, 30⟩ (.name ⟨75, 12, 75, 15⟩ 7) (.idx ⟨75, 18, 75, 30⟩ (.attr ⟨75, 18, 75, 27⟩ (.var ⟨75, 18, 75, 22⟩ 0) 10) (.var ⟨75, 28, 75, 29⟩ 6))) (.cons (.asg ⟨76, 12, 76, 31⟩ (.name ⟨76, 12, 76, 16⟩ 8) (.idx ⟨76, 19, 76, 31⟩ (.var ⟨76, 19, 76, 22⟩ 7) (.bin ⟨76, 23, 76, 30⟩ false .add (.var ⟨76, 23, 76, 26⟩ 2) (.cst ⟨76, 29, 76, 30⟩ 0 (.int 2))))) (.cons (.if_ ⟨77, 12, 81, 44⟩ (.and ⟨77, 15, 77, 36⟩ (.cons (.cmp ⟨77, 15, 77, 22⟩ .ne (.var ⟨77, 15, 77, 16⟩ 6) (.var ⟨77, 20, 77, 22⟩ 1)) (.cons (.cmp ⟨77, 27, 77, 36⟩ .ne (.var ⟨77, 27, 77, 31⟩ 8) (.cst ⟨77, 35, 77, 36⟩ 0 (.int 0))) .nil))) (.cons (.asg ⟨78, 16, 78, 86⟩ (.name ⟨78, 16, 78, 21⟩ 9) (.comp ⟨78, 24, 78, 86⟩ true sc19 [("j", 11)] (.bin ⟨78, 25, 78, 60⟩ false .add (.bin ⟨78, 25, 78, 42⟩ false .mul (.idx ⟨78, 25, 78, 33⟩ (.var ⟨78, 25, 78, 30⟩ 5) (.cst ⟨78, 31, 78, 32⟩ 0 (.int 0))) (.idx ⟨78, 36, 78, 42⟩ (.var ⟨78, 36, 78, 39⟩ 7) (.var ⟨78, 40, 78, 41⟩ 11))) (.bin ⟨78, 45, 78, 60⟩ false .mul (.var ⟨78, 45, 78, 49⟩ 8) (.idx ⟨78, 52, 78, 60⟩ (.var ⟨78, 52, 78, 57⟩ 5) (.var ⟨78, 58, 78, 59⟩ 11)))) (.name ⟨78, 65, 78, 66⟩ 11) (.rng1 ⟨78, 70, 78, 85⟩ ⟨78, 70, 78, 75⟩ (.bi ⟨78, 76, 78, 84⟩ ⟨78, 76, 78, 79⟩ .len false (.cons (.var ⟨78, 80, 78, 83⟩ 7) .nil))) .nil)) (.cons (.asg ⟨79, 16, 79, 44⟩ (.sub ⟨79, 16, 79, 24⟩ (.var ⟨79, 16, 79, 21⟩ 9) (.cst ⟨79, 22, 79, 23⟩ 0 (.int 0))) (.bin ⟨79, 27, 79, 44⟩ false .mul (.idx ⟨79, 27, 79, 35⟩ (.var ⟨79, 27, 79, 32⟩ 5) (.cst ⟨79, 33, 79, 34⟩ 0 (.int 0))) (.idx ⟨79, 38, 79, 44⟩ (.var ⟨79, 38, 79, 41⟩ 7) (.cst ⟨79, 42, 79, 43⟩ 0 (.int 0))))) (.cons (.asg ⟨80, 16, 80, 54⟩ (.sub ⟨80, 16, 80, 30⟩ (.var ⟨80, 16, 80, 21⟩ 9) (.bin ⟨80, 22, 80, 29⟩ false .add (.var ⟨80, 22, 80, 25⟩ 2) (.cst ⟨80, 28, 80, 29⟩ 0 (.int 2)))) (.bin ⟨80, 33, 80, 54⟩ false .mul (.var ⟨80, 33, 80, 37⟩ 8) (.idx ⟨80, 40, 80, 54⟩ (.var ⟨80, 40, 80, 45⟩ 5) (.bin ⟨80, 46, 80, 53⟩ false .add (.var ⟨80, 46, 80, 49⟩ 2) (.cst ⟨80, 52, 80, 53⟩ 0 (.int 2)))))) (.cons (.asg ⟨81, 16, 81, 44⟩ (.sub ⟨81, 16, 81, 28⟩ (.attr ⟨81, 16, 81, 25⟩ (.var ⟨81, 16, 81, 20⟩ 0) 10) (.var ⟨81, 26, 81, 27⟩ 6)) (.frz (.call ⟨81, 31, 81, 44⟩ ⟨81, 31, 81, 37⟩ 2 (.cons (.var ⟨81, 38, 81, 43⟩ 9) .nil)))) .nil)))) .nil) .nil)))
def f30 : Fn := ⟨3, 12, [], b30, false⟩
/-- Table.run -/
def n31 : List Str := (["self", "name", "at", "col"] : List (Str))
def p31 : List Str := (["self"] : List (Str))
def b31 : Ss := (.cons (.while_ ⟨86, 8, 100, 30⟩ (.cst ⟨86, 14, 86, 18⟩ 0 (.bl true)) (.cons (.asg ⟨87, 12, 87, 31⟩ (.name ⟨87, 12, 87, 16⟩ 1) (.meth ⟨87, 19, 87, 31⟩ ⟨87, 19, 87, 29⟩ (.var ⟨87, 19, 87, 23⟩ 0) 1 .nil)) (.cons (.if_ ⟨88, 12, 89, 34⟩ (.cmp ⟨88, 15, 88, 27⟩ .isN (.var ⟨88, 15, 88, 19⟩ 1) (.cst ⟨88, 23, 88, 27⟩ 0 .non)) (.cons (.ret ⟨89, 16, 89, 34⟩ (.tup ⟨89, 23, 89, 34⟩ 0 (.cons (.cst ⟨89, 24, 89, 30⟩ 0 (.str "best")) (.cons (.cst ⟨89, 32, 89, 33⟩ 0 (.int 0)) .nil)))) .nil) .nil) (.cons (.if_ ⟨90, 12, 99, 42⟩ (.cmp ⟨90, 15, 90, 33⟩ .mem (.var ⟨90, 15, 90, 19⟩ 1) (.attr ⟨90, 23, 90, 33⟩ (.var ⟨90, 23, 90, 27⟩ 0) 12)) (.cons (.asg ⟨91, 16, 91, 43⟩ (.name ⟨91, 16, 91, 18⟩ 2) (.bm ⟨91, 21, 91, 43⟩ ⟨91, 21, 91, 37⟩ .index false (.attr ⟨91, 21, 91, 31⟩ (.var ⟨91, 21, 91, 25⟩ 0) 12) (.cons (.var ⟨91, 38, 91, 42⟩ 1) .nil))) (.cons (.asg ⟨92, 16, 92, 44⟩ (.name ⟨92, 16, 92, 19⟩ 3) (.meth ⟨92, 22, 92, 44⟩ ⟨92, 22, 92, 40⟩ (.var ⟨92, 22, 92, 26⟩ 0) 2 (.cons (.var ⟨92, 41, 92, 43⟩ 2) .nil))) (.cons (.if_ ⟨93, 16, 94, 38⟩ (.cmp ⟨93, 19, 93, 30⟩ .isN (.var ⟨93, 19, 93, 22⟩ 3) (.cst ⟨93, 26, 93, 30⟩ 0 .non)) (.cons (.ret ⟨94, 20, 94, 38⟩ (.tup ⟨94, 27, 94, 38⟩ 0 (.cons (.cst ⟨94, 28, 94, 33⟩ 0 (.str "row")) (.cons (.var ⟨94, 35, 94, 37⟩ 2) .nil)))) .nil) .nil) .nil))) (.cons (.asg ⟨96, 16, 96, 44⟩ (.name ⟨96, 16, 96, 19⟩ 3) (.bm ⟨96, 22, 96, 44⟩ ⟨96, 22, 96, 38⟩ .index false (.attr ⟨96, 22, 96, 32⟩ (.var ⟨96, 22, 96, 26⟩ 0) 13) (.cons (.var ⟨96, 39, 96, 43⟩ 1) .nil))) (.cons (.asg ⟨97, 16, 97, 44⟩ (.name ⟨97, 16, 97, 18⟩ 2) (.meth ⟨97, 21, 97, 44⟩ ⟨97, 21, 97, 39⟩ (.var ⟨97, 21, 97, 25⟩ 0) 3 (.cons (.var ⟨97, 40, 97, 43⟩ 3) .nil))) (.cons (.if_ ⟨98, 16, 99, 42⟩ (.cmp ⟨98, 19, 98, 29⟩ .isN (.var ⟨98, 19, 98, 21⟩ 2) (.cst ⟨98, 25, 98, 29⟩ 0 .non)) (.cons (.ret ⟨99, 20, 99, 42⟩ (.tup ⟨99, 27, 99, 42⟩ 0 (.cons (.cst ⟨99, 28, 99, 36⟩ 0 (.str "column")) (.cons (.var ⟨99, 38, 99, 41⟩ 3) .nil)))) .nil) .nil) .nil)))) (.cons (.expr ⟨100, 12, 100, 30⟩ (.meth ⟨100, 12, 100, 30⟩ ⟨100, 12, 100, 21⟩ (.var ⟨100, 12, 100, 16⟩ 0) 4 (.cons (.var ⟨100, 22, 100, 24⟩ 2) (.cons (.var ⟨100, 26, 100, 29⟩ 3) .nil)))) .nil))))) .nil)
def f31 : Fn := ⟨1, 4, [], b31, false⟩
/-- Table.point -/
def n32 : List Str := (["self", "k", "found"] : List (Str))
def p32 : List Str := (["self"] : List (Str))
def b32 : Ss := (.cons (.asg ⟨103, 8, 103, 48⟩ (.name ⟨103, 8, 103, 13⟩ 2) (.comp ⟨103, 16, 103, 48⟩ true sc20 [("k", 1)] (.glob ⟨103, 17, 103, 21⟩ 0) (.name ⟨103, 26, 103, 27⟩ 1) (.rng1 ⟨103, 31, 103, 47⟩ ⟨103, 31, 103, 36⟩ (.attr ⟨103, 37, 103, 46⟩ (.var ⟨103, 37, 103, 41⟩ 0) 11)) .nil)) (.cons (.for_ ⟨104, 8, 106, 78⟩ (.name ⟨104, 12, 104, 13⟩ 1) (.rng1 ⟨104, 17, 104, 39⟩ ⟨104, 17, 104, 22⟩ (.bi ⟨104, 23, 104, 38⟩ ⟨104, 23, 104, 26⟩ .len false (.cons (.attr ⟨104, 27, 104, 37⟩ (.var ⟨104, 27, 104, 31⟩ 0) 12) .nil))) (.cons (.if_ ⟨105, 12, 106, 78⟩ (.cmp ⟨105, 15, 105, 40⟩ .lt (.idx ⟨105, 15, 105, 28⟩ (.attr ⟨105, 15, 105, 25⟩ (.var ⟨105, 15, 105, 19⟩ 0) 12) (.var ⟨105, 26, 105, 27⟩ 1)) (.attr ⟨105, 31, 105, 40⟩ (.var ⟨105, 31, 105, 35⟩ 0) 11)) (.cons (.asg ⟨106, 16, 106, 78⟩ (.sub ⟨106, 16, 106, 36⟩ (.var ⟨106, 16, 106, 21⟩ 2) (.idx ⟨106, 22, 106, 35⟩ (.attr ⟨106, 22, 106, 32⟩ (.var ⟨106, 22, 106, 26⟩ 0) 12) (.var ⟨106, 33, 106, 34⟩ 1))) (.call ⟨106, 39, 106, 78⟩ ⟨106, 39, 106, 44⟩ 0 (.cons (.idx ⟨106, 45, 106, 60⟩ (.idx ⟨106, 45, 106, 57⟩ (.attr ⟨106, 45, 106, 54⟩ (.var ⟨106, 45, 106, 49⟩ 0) 10) (.var ⟨106, 55, 106, 56⟩ 1)) (.cst ⟨106, 58, 106, 59⟩ 0 (.int 1))) (.cons (.idx ⟨106, 62, 106, 77⟩ (.idx ⟨106, 62, 106, 74⟩ (.attr ⟨106, 62, 106, 71⟩ (.var ⟨106, 62, 106, 66⟩ 0) 10) (.var ⟨106, 72, 106, 73⟩ 1)) (.cst ⟨106, 75, 106, 76⟩ 0 (.int 0))) .nil)))) .nil) .nil) .nil)) (.cons (.ret ⟨107, 8, 107, 27⟩ (.bi ⟨107, 15, 107, 27⟩ ⟨107, 15, 107, 20⟩ .tuple1 false (.cons (.var ⟨107, 21, 107, 26⟩ 2) .nil))) .nil)))
def ce32_0 : E := (.glob ⟨103, 17, 103, 21⟩ 0)
def ct32_0 : Tg := (.name ⟨103, 26, 103, 27⟩ 1)
def ci32_0 : Es := .nil
def lt32_0 : Tg := (.name ⟨104, 12, 104, 13⟩ 1)
def lb32_0 : Ss := (.cons (.if_ ⟨105, 12, 106, 78⟩ (.cmp ⟨105, 15, 105, 40⟩ .lt (.idx ⟨105, 15, 105, 28⟩ (.attr ⟨105, 15, 105, 25⟩ (.var ⟨105, 15, 105, 19⟩ 0) 12) (.var ⟨105, 26, 105, 27⟩ 1)) (.attr ⟨105, 31, 105, 40⟩ (.var ⟨105, 31, 105, 35⟩ 0) 11)) (.cons (.asg ⟨106, 16, 106, 78⟩ (.sub ⟨106, 16, 106, 36⟩ (.var ⟨106, 16, 106, 21⟩ 2) (.idx ⟨106, 22, 106, 35⟩ (.attr ⟨106, 22, 106, 32⟩ (.var ⟨106, 22, 106, 26⟩ 0) 12) (.var ⟨106, 33, 106, 34⟩ 1))) (.call ⟨106, 39, 106, 78⟩ ⟨106, 39, 106, 44⟩ 0 (.cons (.idx ⟨106, 45, 106, 60⟩ (.idx ⟨106, 45, 106, 57⟩ (.attr ⟨106, 45, 106, 54⟩ (.var ⟨106, 45, 106, 49⟩ 0) 10) (.var ⟨106, 55, 106, 56⟩ 1)) (.cst ⟨106, 58, 106, 59⟩ 0 (.int 1))) (.cons (.idx ⟨106, 62, 106, 77⟩ (.idx ⟨106, 62, 106, 74⟩ (.attr ⟨106, 62, 106, 71⟩ (.var ⟨106, 62, 106, 66⟩ 0) 10) (.var ⟨106, 72, 106, 73⟩ 1)) (.cst ⟨106, 75, 106, 76⟩ 0 (.int 0))) .nil)))) .nil) .nil) .nil)
def f32 : Fn := ⟨1, 3, [], b32, true⟩
/-- Table.prices -/
def n33 : List Str := (["self", "k", "found", "last"] : List (Str))
def p33 : List Str := (["self"] : List (Str))
def b33 : Ss := (.cons (.asg ⟨110, 8, 110, 54⟩ (.name ⟨110, 8, 110, 13⟩ 2) (.comp ⟨110, 16, 110, 54⟩ true sc20 [("k", 1)] (.glob ⟨110, 17, 110, 21⟩ 0) (.name ⟨110, 26, 110, 27⟩ 1) (.rng1 ⟨110, 31, 110, 53⟩ ⟨110, 31, 110, 36⟩ (.bi ⟨110, 37, 110, 52⟩ ⟨110, 37, 110, 40⟩ .len false (.cons (.attr ⟨110, 41, 110, 51⟩ (.var ⟨110, 41, 110, 45⟩ 0) 12) .nil))) .nil)) (.cons (.asg ⟨111, 8, 111, 28⟩ (.name ⟨111, 8, 111, 12⟩ 3) (.idx ⟨111, 15, 111, 28⟩ (.attr ⟨111, 15, 111, 24⟩ (.var ⟨111, 15, 111, 19⟩ 0) 10) (.neg ⟨111, 25, 111, 27⟩ (.cst ⟨111, 26, 111, 27⟩ 0 (.int 1))))) (.cons (.for_ ⟨112, 8, 114, 78⟩ (.name ⟨112, 12, 112, 13⟩ 1) (.rng1 ⟨112, 17, 112, 33⟩ ⟨112, 17, 112, 22⟩ (.attr ⟨112, 23, 112, 32⟩ (.var ⟨112, 23, 112, 27⟩ 0) 11)) (.cons (.if_ ⟨113, 12, 114, 78⟩ (.cmp ⟨113, 15, 113, 41⟩ .ge (.idx ⟨113, 15, 113, 28⟩ (.attr ⟨113, 15, 113, 25⟩ (.var ⟨113, 15, 113, 19⟩ 0) 13) (.var ⟨113, 26, 113, 27⟩ 1)) (.attr ⟨113, 32, 113, 41⟩ (.var ⟨113, 32, 113, 36⟩ 0) 11)) (.cons (.asg ⟨114, 16, 114, 78⟩ (.sub ⟨114, 16, 114, 48⟩ (.var ⟨114, 16, 114, 21⟩ 2) (.bin ⟨114, 22, 114, 47⟩ false .sub (.idx ⟨114, 22, 114, 35⟩ (.attr ⟨114, 22, 114, 32⟩ (.var ⟨114, 22, 114, 26⟩ 0) 13) (.var ⟨114, 33, 114, 34⟩ 1)) (.attr ⟨114, 38, 114, 47⟩ (.var ⟨114, 38, 114, 42⟩ 0) 11))) (.call ⟨114, 51, 114, 78⟩ ⟨114, 51, 114, 56⟩ 0 (.cons (.idx ⟨114, 57, 114, 68⟩ (.var ⟨114, 57, 114, 61⟩ 3) (.bin ⟨114, 62, 114, 67⟩ false .add (.var ⟨114, 62, 114, 63⟩ 1) (.cst ⟨114, 66, 114, 67⟩ 0 (.int 2)))) (.cons (.idx ⟨114, 70, 114, 77⟩ (.var ⟨114, 70, 114, 74⟩ 3) (.cst ⟨114, 75, 114, 76⟩ 0 (.int 0))) .nil)))) .nil) .nil) .nil)) (.cons (.ret ⟨115, 8, 115, 27⟩ (.bi ⟨115, 15, 115, 27⟩ ⟨115, 15, 115, 20⟩ .tuple1 false (.cons (.var ⟨115, 21, 115, 26⟩ 2) .nil))) .nil))))
def ce33_0 : E := (.glob ⟨110, 17, 110, 21⟩ 0)
def ct33_0 : Tg := (.name ⟨110, 26, 110, 27⟩ 1)
def ci33_0 : Es := .nil
def lt33_0 : Tg := (.name ⟨112, 12, 112, 13⟩ 1)
def lb33_0 : Ss := (.cons (.if_ ⟨113, 12, 114, 78⟩ (.cmp ⟨113, 15, 113, 41⟩ .ge (.idx ⟨113, 15, 113, 28⟩ (.attr ⟨113, 15, 113, 25⟩ (.var ⟨113, 15, 113, 19⟩ 0) 13) (.var ⟨113, 26, 113, 27⟩ 1)) (.attr ⟨113, 32, 113, 41⟩ (.var ⟨113, 32, 113, 36⟩ 0) 11)) (.cons (.asg ⟨114, 16, 114, 78⟩ (.sub ⟨114, 16, 114, 48⟩ (.var ⟨114, 16, 114, 21⟩ 2) (.bin ⟨114, 22, 114, 47⟩ false .sub (.idx ⟨114, 22, 114, 35⟩ (.attr ⟨114, 22, 114, 32⟩ (.var ⟨114, 22, 114, 26⟩ 0) 13) (.var ⟨114, 33, 114, 34⟩ 1)) (.attr ⟨114, 38, 114, 47⟩ (.var ⟨114, 38, 114, 42⟩ 0) 11))) (.call ⟨114, 51, 114, 78⟩ ⟨114, 51, 114, 56⟩ 0 (.cons (.idx ⟨114, 57, 114, 68⟩ (.var ⟨114, 57, 114, 61⟩ 3) (.bin ⟨114, 62, 114, 67⟩ false .add (.var ⟨114, 62, 114, 63⟩ 1) (.cst ⟨114, 66, 114, 67⟩ 0 (.int 2)))) (.cons (.idx ⟨114, 70, 114, 77⟩ (.var ⟨114, 70, 114, 74⟩ 3) (.cst ⟨114, 75, 114, 76⟩ 0 (.int 0))) .nil)))) .nil) .nil) .nil)
def f33 : Fn := ⟨1, 4, [], b33, true⟩
/-- Table.bar -/
def n34 : List Str := (["self", "at", "k", "found", "row"] : List (Str))
def p34 : List Str := (["self", "at"] : List (Str))
def b34 : Ss := (.cons (.asg ⟨118, 8, 118, 54⟩ (.name ⟨118, 8, 118, 13⟩ 3) (.comp ⟨118, 16, 118, 54⟩ true sc20 [("k", 2)] (.glob ⟨118, 17, 118, 21⟩ 0) (.name ⟨118, 26, 118, 27⟩ 2) (.rng1 ⟨118, 31, 118, 53⟩ ⟨118, 31, 118, 36⟩ (.bi ⟨118, 37, 118, 52⟩ ⟨118, 37, 118, 40⟩ .len false (.cons (.attr ⟨118, 41, 118, 51⟩ (.var ⟨118, 41, 118, 45⟩ 0) 12) .nil))) .nil)) (.cons (.asg ⟨119, 8, 119, 27⟩ (.name ⟨119, 8, 119, 11⟩ 4) (.idx ⟨119, 14, 119, 27⟩ (.attr ⟨119, 14, 119, 23⟩ (.var ⟨119, 14, 119, 18⟩ 0) 10) (.var ⟨119, 24, 119, 26⟩ 1))) (.cons (.if_ ⟨120, 8, 121, 59⟩ (.cmp ⟨120, 11, 120, 38⟩ .ge (.idx ⟨120, 11, 120, 25⟩ (.attr ⟨120, 11, 120, 21⟩ (.var ⟨120, 11, 120, 15⟩ 0) 12) (.var ⟨120, 22, 120, 24⟩ 1)) (.attr ⟨120, 29, 120, 38⟩ (.var ⟨120, 29, 120, 33⟩ 0) 11)) (.cons (.asg ⟨121, 12, 121, 59⟩ (.sub ⟨121, 12, 121, 45⟩ (.var ⟨121, 12, 121, 17⟩ 3) (.bin ⟨121, 18, 121, 44⟩ false .sub (.idx ⟨121, 18, 121, 32⟩ (.attr ⟨121, 18, 121, 28⟩ (.var ⟨121, 18, 121, 22⟩ 0) 12) (.var ⟨121, 29, 121, 31⟩ 1)) (.attr ⟨121, 35, 121, 44⟩ (.var ⟨121, 35, 121, 39⟩ 0) 11))) (.tup ⟨121, 48, 121, 59⟩ 0 (.cons (.idx ⟨121, 49, 121, 55⟩ (.var ⟨121, 49, 121, 52⟩ 4) (.cst ⟨121, 53, 121, 54⟩ 0 (.int 0))) (.cons (.cst ⟨121, 57, 121, 58⟩ 0 (.int 1)) .nil)))) .nil) .nil) (.cons (.for_ ⟨122, 8, 124, 67⟩ (.name ⟨122, 12, 122, 13⟩ 2) (.rng1 ⟨122, 17, 122, 33⟩ ⟨122, 17, 122, 22⟩ (.attr ⟨122, 23, 122, 32⟩ (.var ⟨122, 23, 122, 27⟩ 0) 11)) (.cons (.if_ ⟨123, 12, 124, 67⟩ (.cmp ⟨123, 15, 123, 41⟩ .ge (.idx ⟨123, 15, 123, 28⟩ (.attr ⟨123, 15, 123, 25⟩ (.var ⟨123, 15, 123, 19⟩ 0) 13) (.var ⟨123, 26, 123, 27⟩ 2)) (.attr ⟨123, 32, 123, 41⟩ (.var ⟨123, 32, 123, 36⟩ 0) 11)) (.cons (.asg ⟨124, 16, 124, 67⟩ (.sub ⟨124, 16, 124, 48⟩ (.var ⟨124, 16, 124, 21⟩ 3) (.bin ⟨124, 22, 124, 47⟩ false .sub (.idx ⟨124, 22, 124, 35⟩ (.attr ⟨124, 22, 124, 32⟩ (.var ⟨124, 22, 124, 26⟩ 0) 13) (.var ⟨124, 33, 124, 34⟩ 2)) (.attr ⟨124, 38, 124, 47⟩ (.var ⟨124, 38, 124, 42⟩ 0) 11))) (.tup ⟨124, 51, 124, 67⟩ 0 (.cons (.neg ⟨124, 52, 124, 63⟩ (.idx ⟨124, 53, 124, 63⟩ (.var ⟨124, 53, 124, 56⟩ 4) (.bin ⟨124, 57, 124, 62⟩ false .add (.var ⟨124, 57, 124, 58⟩ 2) (.cst ⟨124, 61, 124, 62⟩ 0 (.int 2))))) (.cons (.cst ⟨124, 65, 124, 66⟩ 0 (.int 1)) .nil)))) .nil) .nil) .nil)) (.cons (.ret ⟨125, 8, 125, 27⟩ (.bi ⟨125, 15, 125, 27⟩ ⟨125, 15, 125, 20⟩ .tuple1 false (.cons (.var ⟨125, 21, 125, 26⟩ 3) .nil))) .nil)))))
def ce34_0 : E := (.glob ⟨118, 17, 118, 21⟩ 0)
def ct34_0 : Tg := (.name ⟨118, 26, 118, 27⟩ 2)
def ci34_0 : Es := .nil
def lt34_0 : Tg := (.name ⟨122, 12, 122, 13⟩ 2)
def lb34_0 : Ss := (.cons (.if_ ⟨123, 12, 124, 67⟩ (.cmp ⟨123, 15, 123, 41⟩ .ge (.idx ⟨123, 15, 123, 28⟩ (.attr ⟨123, 15, 123, 25⟩ (.var ⟨123, 15, 123, 19⟩ 0) 13) (.var ⟨123, 26, 123, 27⟩ 2)) (.attr ⟨123, 32, 123, 41⟩ (.var ⟨123, 32, 123, 36⟩ 0) 11)) (.cons (.asg ⟨124, 16, 124, 67⟩ (.sub ⟨124, 16, 124, 48⟩ (.var ⟨124, 16, 124, 21⟩ 3) (.bin ⟨124, 22, 124, 47⟩ false .sub (.idx ⟨124, 22, 124, 35⟩ (.attr ⟨124, 22, 124, 32⟩ (.var ⟨124, 22, 124, 26⟩ 0) 13) (.var ⟨124, 33, 124, 34⟩ 2)) (.attr ⟨124, 38, 124, 47⟩ (.var ⟨124, 38, 124, 42⟩ 0) 11))) (.tup ⟨124, 51, 124, 67⟩ 0 (.cons (.neg ⟨124, 52, 124, 63⟩ (.idx ⟨124, 53, 124, 63⟩ (.var ⟨124, 53, 124, 56⟩ 4) (.bin ⟨124, 57, 124, 62⟩ false .add (.var ⟨124, 57, 124, 58⟩ 2) (.cst ⟨124, 61, 124, 62⟩ 0 (.int 2))))) (.cons (.cst ⟨124, 65, 124, 66⟩ 0 (.int 1)) .nil)))) .nil) .nil) .nil)
def f34 : Fn := ⟨2, 5, [], b34, true⟩
/-- Table.direction -/
def n35 : List Str := (["self", "col", "k", "found"] : List (Str))
def p35 : List Str := (["self", "col"] : List (Str))
def b35 : Ss := (.cons (.asg ⟨128, 8, 128, 48⟩ (.name ⟨128, 8, 128, 13⟩ 3) (.comp ⟨128, 16, 128, 48⟩ true sc20 [("k", 2)] (.glob ⟨128, 17, 128, 21⟩ 0) (.name ⟨128, 26, 128, 27⟩ 2) (.rng1 ⟨128, 31, 128, 47⟩ ⟨128, 31, 128, 36⟩ (.attr ⟨128, 37, 128, 46⟩ (.var ⟨128, 37, 128, 41⟩ 0) 11)) .nil)) (.cons (.if_ ⟨129, 8, 130, 43⟩ (.cmp ⟨129, 11, 129, 38⟩ .lt (.idx ⟨129, 11, 129, 26⟩ (.attr ⟨129, 11, 129, 21⟩ (.var ⟨129, 11, 129, 15⟩ 0) 13) (.var ⟨129, 22, 129, 25⟩ 1)) (.attr ⟨129, 29, 129, 38⟩ (.var ⟨129, 29, 129, 33⟩ 0) 11)) (.cons (.asg ⟨130, 12, 130, 43⟩ (.sub ⟨130, 12, 130, 34⟩ (.var ⟨130, 12, 130, 17⟩ 3) (.idx ⟨130, 18, 130, 33⟩ (.attr ⟨130, 18, 130, 28⟩ (.var ⟨130, 18, 130, 22⟩ 0) 13) (.var ⟨130, 29, 130, 32⟩ 1))) (.tup ⟨130, 37, 130, 43⟩ 0 (.cons (.cst ⟨130, 38, 130, 39⟩ 0 (.int 1)) (.cons (.cst ⟨130, 41, 130, 42⟩ 0 (.int 1)) .nil)))) .nil) .nil) (.cons (.for_ ⟨131, 8, 133, 84⟩ (.name ⟨131, 12, 131, 13⟩ 2) (.rng1 ⟨131, 17, 131, 39⟩ ⟨131, 17, 131, 22⟩ (.bi ⟨131, 23, 131, 38⟩ ⟨131, 23, 131, 26⟩ .len false (.cons (.attr ⟨131, 27, 131, 37⟩ (.var ⟨131, 27, 131, 31⟩ 0) 12) .nil))) (.cons (.if_ ⟨132, 12, 133, 84⟩ (.cmp ⟨132, 15, 132, 40⟩ .lt (.idx ⟨132, 15, 132, 28⟩ (.attr ⟨132, 15, 132, 25⟩ (.var ⟨132, 15, 132, 19⟩ 0) 12) (.var ⟨132, 26, 132, 27⟩ 2)) (.attr ⟨132, 31, 132, 40⟩ (.var ⟨132, 31, 132, 35⟩ 0) 11)) (.cons (.asg ⟨133, 16, 133, 84⟩ (.sub ⟨133, 16, 133, 36⟩ (.var ⟨133, 16, 133, 21⟩ 3) (.idx ⟨133, 22, 133, 35⟩ (.attr ⟨133, 22, 133, 32⟩ (.var ⟨133, 22, 133, 26⟩ 0) 12) (.var ⟨133, 33, 133, 34⟩ 2))) (.call ⟨133, 39, 133, 84⟩ ⟨133, 39, 133, 44⟩ 0 (.cons (.idx ⟨133, 45, 133, 66⟩ (.idx ⟨133, 45, 133, 57⟩ (.attr ⟨133, 45, 133, 54⟩ (.var ⟨133, 45, 133, 49⟩ 0) 10) (.var ⟨133, 55, 133, 56⟩ 2)) (.bin ⟨133, 58, 133, 65⟩ false .add (.var ⟨133, 58, 133, 61⟩ 1) (.cst ⟨133, 64, 133, 65⟩ 0 (.int 2)))) (.cons (.idx ⟨133, 68, 133, 83⟩ (.idx ⟨133, 68, 133, 80⟩ (.attr ⟨133, 68, 133, 77⟩ (.var ⟨133, 68, 133, 72⟩ 0) 10) (.var ⟨133, 78, 133, 79⟩ 2)) (.cst ⟨133, 81, 133, 82⟩ 0 (.int 0))) .nil)))) .nil) .nil) .nil)) (.cons (.ret ⟨134, 8, 134, 27⟩ (.bi ⟨134, 15, 134, 27⟩ ⟨134, 15, 134, 20⟩ .tuple1 false (.cons (.var ⟨134, 21, 134, 26⟩ 3) .nil))) .nil))))
def ce35_0 : E := (.glob ⟨128, 17, 128, 21⟩ 0)
def ct35_0 : Tg := (.name ⟨128, 26, 128, 27⟩ 2)
def ci35_0 : Es := .nil
def lt35_0 : Tg := (.name ⟨131, 12, 131, 13⟩ 2)
def lb35_0 : Ss := (.cons (.if_ ⟨132, 12, 133, 84⟩ (.cmp ⟨132, 15, 132, 40⟩ .lt (.idx ⟨132, 15, 132, 28⟩ (.attr ⟨132, 15, 132, 25⟩ (.var ⟨132, 15, 132, 19⟩ 0) 12) (.var ⟨132, 26, 132, 27⟩ 2)) (.attr ⟨132, 31, 132, 40⟩ (.var ⟨132, 31, 132, 35⟩ 0) 11)) (.cons (.asg ⟨133, 16, 133, 84⟩ (.sub ⟨133, 16, 133, 36⟩ (.var ⟨133, 16, 133, 21⟩ 3) (.idx ⟨133, 22, 133, 35⟩ (.attr ⟨133, 22, 133, 32⟩ (.var ⟨133, 22, 133, 26⟩ 0) 12) (.var ⟨133, 33, 133, 34⟩ 2))) (.call ⟨133, 39, 133, 84⟩ ⟨133, 39, 133, 44⟩ 0 (.cons (.idx ⟨133, 45, 133, 66⟩ (.idx ⟨133, 45, 133, 57⟩ (.attr ⟨133, 45, 133, 54⟩ (.var ⟨133, 45, 133, 49⟩ 0) 10) (.var ⟨133, 55, 133, 56⟩ 2)) (.bin ⟨133, 58, 133, 65⟩ false .add (.var ⟨133, 58, 133, 61⟩ 1) (.cst ⟨133, 64, 133, 65⟩ 0 (.int 2)))) (.cons (.idx ⟨133, 68, 133, 83⟩ (.idx ⟨133, 68, 133, 80⟩ (.attr ⟨133, 68, 133, 77⟩ (.var ⟨133, 68, 133, 72⟩ 0) 10) (.var ⟨133, 78, 133, 79⟩ 2)) (.cst ⟨133, 81, 133, 82⟩ 0 (.int 0))) .nil)))) .nil) .nil) .nil)
def f35 : Fn := ⟨2, 4, [], b35, true⟩
def ats : List (Str × Option Str) := ([("ratio", none), ("minus", none), ("lowest", none), ("whole_row", none), ("solve", none), ("_law_cell", none), ("_law_draws", none), ("_law_gcd", none), ("_law_ratio", none), ("_law_add", none), ("_law_mul", none), ("_law_below", none), ("_law_is_whole", none), ("_law_is_ratio", none), ("_law_dot", none), ("_law_ratios", none), ("_law_sums", none), ("_law_sound_entries", none), ("_law_sound_prices", none), ("_law_shown", none)] : List (Str × Option Str)) ++ ([("_law_matrix", none), ("_law_best", none), ("_law_numbers", none), ("_law_with_bar", none), ("_law_with_ray", none), ("law", none), ("Table", some "__init__"), ("Table", some "wrong"), ("Table", some "outer_partner"), ("Table", some "inner_partner"), ("Table", some "turn"), ("Table", some "run"), ("Table", some "point"), ("Table", some "prices"), ("Table", some "bar"), ("Table", some "direction")] : List (Str × Option Str))
def pk : Pk where
  fns := ([f0, f1, f2, f3, f4, f5, f6, f7, f8, f9, f10, f11, f12, f13, f14, f15, f16, f17, f18, f19] : List (Fn)) ++ ([f20, f21, f22, f23, f24, f25, f26, f27, f28, f29, f30, f31, f32, f33, f34, f35] : List (Fn))
  ns := ([n0, n1, n2, n3, n4, n5, n6, n7, n8, n9, n10, n11, n12, n13, n14, n15, n16, n17, n18, n19] : List (List Str)) ++ ([n20, n21, n22, n23, n24, n25, n26, n27, n28, n29, n30, n31, n32, n33, n34, n35] : List (List Str))
  ps := ([p0, p1, p2, p3, p4, p5, p6, p7, p8, p9, p10, p11, p12, p13, p14, p15, p16, p17, p18, p19] : List (List Str)) ++ ([p20, p21, p22, p23, p24, p25, p26, p27, p28, p29, p30, p31, p32, p33, p34, p35] : List (List Str))
  ats := ats
  nG := 26
  fnL := (["ratio", "minus", "lowest", "whole_row", "solve", "_law_cell", "_law_draws", "_law_gcd", "_law_ratio", "_law_add", "_law_mul", "_law_below", "_law_is_whole", "_law_is_ratio", "_law_dot", "_law_ratios", "_law_sums", "_law_sound_entries", "_law_sound_prices", "_law_shown"] : List (Str)) ++ (["_law_matrix", "_law_best", "_law_numbers", "_law_with_bar", "_law_with_ray", "law", "__init__", "wrong", "outer_partner", "inner_partner", "turn", "run", "point", "prices", "bar", "direction"] : List (Str))
  clL := (["Table", "PlanError", "BadNumber"] : List (Str))
  glL := (["ZERO"] : List (Str))
  glD := ([.tup [.int (0), .int (1)]] : List (D))
  fldL := (["__init__", "wrong", "outer_partner", "inner_partner", "turn", "run", "point", "prices", "bar", "direction", "rows", "many", "inner", "outer"] : List (Str))
  mtL := ([(0, 0, 26), (0, 1, 27), (0, 2, 28), (0, 3, 29), (0, 4, 30), (0, 5, 31), (0, 6, 32), (0, 7, 33), (0, 8, 34), (0, 9, 35)] : List (Nat × Nat × Nat))
  inL := ([(0, 26)] : List (Nat × Nat))
  frL := ([] : List (Nat))
  fdL := ([(0, 10), (0, 11), (0, 12), (0, 13)] : List (Nat × Nat))
  nC := 1
/-! ### the text -/
abbrev PP : Program := PySem.Challenge.pw_plansasnewscome_k86_linear_one_of_three
def top (i : Nat) : Stmt := PP.main.body.getD i (.Pass ⟨0, 0, 0, 0⟩)
def inCls (i j : Nat) : Stmt := match top i with
  | .ClassDef _ _ _ b _ _ _ _ _ _ _ => b.getD j (.Pass ⟨0, 0, 0, 0⟩)
  | s => s
def d0 : He.DefD := ⟨("ratio", none), "ratio", "ratio", defArgs (top 6), defBody (top 6), defScope (top 6), [.int (1)], []⟩
def d1 : He.DefD := ⟨("minus", none), "minus", "minus", defArgs (top 7), defBody (top 7), defScope (top 7), [], []⟩
def d2 : He.DefD := ⟨("lowest", none), "lowest", "lowest", defArgs (top 9), defBody (top 9), defScope (top 9), [], []⟩
def d3 : He.DefD := ⟨("whole_row", none), "whole_row", "whole_row", defArgs (top 10), defBody (top 10), defScope (top 10), [], []⟩
def d4 : He.DefD := ⟨("solve", none), "solve", "solve", defArgs (top 12), defBody (top 12), defScope (top 12), [], []⟩
def d5 : He.DefD := ⟨("_law_cell", none), "_law_cell", "_law_cell", defArgs (top 14), defBody (top 14), defScope (top 14), [], []⟩
def d6 : He.DefD := ⟨("_law_draws", none), "_law_draws", "_law_draws", defArgs (top 15), defBody (top 15), defScope (top 15), [], []⟩
def d7 : He.DefD := ⟨("_law_gcd", none), "_law_gcd", "_law_gcd", defArgs (top 16), defBody (top 16), defScope (top 16), [], []⟩
def d8 : He.DefD := ⟨("_law_ratio", none), "_law_ratio", "_law_ratio", defArgs (top 17), defBody (top 17), defScope (top 17), [], []⟩
def d9 : He.DefD := ⟨("_law_add", none), "_law_add", "_law_add", defArgs (top 18), defBody (top 18), defScope (top 18), [], []⟩
def d10 : He.DefD := ⟨("_law_mul", none), "_law_mul", "_law_mul", defArgs (top 19), defBody (top 19), defScope (top 19), [], []⟩
def d11 : He.DefD := ⟨("_law_below", none), "_law_below", "_law_below", defArgs (top 20), defBody (top 20), defScope (top 20), [], []⟩
def d12 : He.DefD := ⟨("_law_is_whole", none), "_law_is_whole", "_law_is_whole", defArgs (top 21), defBody (top 21), defScope (top 21), [], []⟩
def d13 : He.DefD := ⟨("_law_is_ratio", none), "_law_is_ratio", "_law_is_ratio", defArgs (top 22), defBody (top 22), defScope (top 22), [], []⟩
def d14 : He.DefD := ⟨("_law_dot", none), "_law_dot", "_law_dot", defArgs (top 23), defBody (top 23), defScope (top 23), [], []⟩
def d15 : He.DefD := ⟨("_law_ratios", none), "_law_ratios", "_law_ratios", defArgs (top 24), defBody (top 24), defScope (top 24), [], []⟩
def d16 : He.DefD := ⟨("_law_sums", none), "_law_sums", "_law_sums", defArgs (top 25), defBody (top 25), defScope (top 25), [], []⟩
def d17 : He.DefD := ⟨("_law_sound_entries", none), "_law_sound_entries", "_law_sound_entries", defArgs (top 26), defBody (top 26), defScope (top 26), [], []⟩
def d18 : He.DefD := ⟨("_law_sound_prices", none), "_law_sound_prices", "_law_sound_prices", defArgs (top 27), defBody (top 27), defScope (top 27), [], []⟩
def d19 : He.DefD := ⟨("_law_shown", none), "_law_shown", "_law_shown", defArgs (top 28), defBody (top 28), defScope (top 28), [], []⟩
def d20 : He.DefD := ⟨("_law_matrix", none), "_law_matrix", "_law_matrix", defArgs (top 29), defBody (top 29), defScope (top 29), [], []⟩
def d21 : He.DefD := ⟨("_law_best", none), "_law_best", "_law_best", defArgs (top 30), defBody (top 30), defScope (top 30), [], []⟩
def d22 : He.DefD := ⟨("_law_numbers", none), "_law_numbers", "_law_numbers", defArgs (top 31), defBody (top 31), defScope (top 31), [], []⟩
def d23 : He.DefD := ⟨("_law_with_bar", none), "_law_with_bar", "_law_with_bar", defArgs (top 32), defBody (top 32), defScope (top 32), [], []⟩
def d24 : He.DefD := ⟨("_law_with_ray", none), "_law_with_ray", "_law_with_ray", defArgs (top 33), defBody (top 33), defScope (top 33), [], []⟩
def d25 : He.DefD := ⟨("law", none), "law", "law", defArgs (top 34), defBody (top 34), defScope (top 34), [], []⟩
def d26 : He.DefD := ⟨("Table", some "__init__"), "__init__", "Table.__init__", defArgs (inCls 11 0), defBody (inCls 11 0), defScope (inCls 11 0), [], []⟩
def d27 : He.DefD := ⟨("Table", some "wrong"), "wrong", "Table.wrong", defArgs (inCls 11 1), defBody (inCls 11 1), defScope (inCls 11 1), [], []⟩
def d28 : He.DefD := ⟨("Table", some "outer_partner"), "outer_partner", "Table.outer_partner", defArgs (inCls 11 2), defBody (inCls 11 2), defScope (inCls 11 2), [], []⟩
def d29 : He.DefD := ⟨("Table", some "inner_partner"), "inner_partner", "Table.inner_partner", defArgs (inCls 11 3), defBody (inCls 11 3), defScope (inCls 11 3), [], []⟩
def d30 : He.DefD := ⟨("Table", some "turn"), "turn", "Table.turn", defArgs (inCls 11 4), defBody (inCls 11 4), defScope (inCls 11 4), [], []⟩
def d31 : He.DefD := ⟨("Table", some "run"), "run", "Table.run", defArgs (inCls 11 5), defBody (inCls 11 5), defScope (inCls 11 5), [], []⟩
def d32 : He.DefD := ⟨("Table", some "point"), "point", "Table.point", defArgs (inCls 11 6), defBody (inCls 11 6), defScope (inCls 11 6), [], []⟩
def d33 : He.DefD := ⟨("Table", some "prices"), "prices", "Table.prices", defArgs (inCls 11 7), defBody (inCls 11 7), defScope (inCls 11 7), [], []⟩
def d34 : He.DefD := ⟨("Table", some "bar"), "bar", "Table.bar", defArgs (inCls 11 8), defBody (inCls 11 8), defScope (inCls 11 8), [], []⟩
def d35 : He.DefD := ⟨("Table", some "direction"), "direction", "Table.direction", defArgs (inCls 11 9), defBody (inCls 11 9), defScope (inCls 11 9), [], []⟩
def defs : List He.DefD := ([d0, d1, d2, d3, d4, d5, d6, d7, d8, d9, d10, d11, d12, d13, d14, d15, d16, d17, d18, d19] : List (He.DefD)) ++ ([d20, d21, d22, d23, d24, d25, d26, d27, d28, d29, d30, d31, d32, d33, d34, d35] : List (He.DefD))
theorem bind0 : ∀ (K : PySem.W.Frag) (a : Addr) (fd : FuncData), FunD K d0.name d0.qual d0.params d0.body d0.scope (d0.dvs K) (d0.kws K) a fd → ∀ m ≤ f0.dfl.length, ∃ dvs ds, Binds K fd (pk.psF 0) ds ∧ Vals dvs ds ∧ ∀ (T : Tx) w, RVs T w dvs (f0.dfl.drop (f0.dfl.length - m)) := fun K a fd FD => bind_one rfl (by obtain ⟨ds, r, b⟩ := FD.binds1 (ps := p0) 2 1 (by exact List.cons_ne_nil _ _) rfl (fun _ _ _ _ _ _ _ us its h1 h2 => match us, its, h1, h2 with | [_, _], [_], _, _ => ⟨_, rfl, rfl⟩); cases r; exact b) (FD.binds1 (ps := p0) 1 0 (by exact List.cons_ne_nil _ _) rfl fun _ _ _ _ _ _ _ us its h1 h2 => match us, its, h1, h2 with | [_], [_], _, _ => ⟨_, rfl, rfl⟩) (fun T w => .int _)
theorem ok0 : DOk pk 0 f0 d0 := ⟨rfl, by kernel_rfl, ⟨by kernel_rfl, by kernel_rfl, by kernel_rfl, by decide +kernel, by kernel_rfl, by decide +kernel, by decide +kernel⟩, rfl, rfl, by kernel_rfl, bind0⟩
theorem ok1 : DOk pk 1 f1 d1 := ⟨rfl, by kernel_rfl, ⟨by kernel_rfl, by kernel_rfl, by kernel_rfl, by decide +kernel, by kernel_rfl, by decide +kernel, by decide +kernel⟩, rfl, rfl, by kernel_rfl, fun K a fd FD => bind_none rfl (FunD.bindsN (ps := p1) FD fun _ _ _ _ _ _ us hl => match us, hl with | [_, _], _ => rfl)⟩
theorem ok2 : DOk pk 2 f2 d2 := ⟨rfl, by kernel_rfl, ⟨by kernel_rfl, by kernel_rfl, by kernel_rfl, by decide +kernel, by kernel_rfl, by decide +kernel, by decide +kernel⟩, rfl, rfl, by kernel_rfl, fun K a fd FD => bind_none rfl (FunD.bindsN (ps := p2) FD fun _ _ _ _ _ _ us hl => match us, hl with | [_], _ => rfl)⟩
theorem ok3 : DOk pk 3 f3 d3 := ⟨rfl, by kernel_rfl, ⟨by kernel_rfl, by kernel_rfl, by kernel_rfl, by decide +kernel, by kernel_rfl, by decide +kernel, by decide +kernel⟩, rfl, rfl, by kernel_rfl, fun K a fd FD => bind_none rfl (FunD.bindsN (ps := p3) FD fun _ _ _ _ _ _ us hl => match us, hl with | [_], _ => rfl)⟩
theorem ok4 : DOk pk 4 f4 d4 := ⟨rfl, by kernel_rfl, ⟨by kernel_rfl, by kernel_rfl, by kernel_rfl, by decide +kernel, by kernel_rfl, by decide +kernel, by decide +kernel⟩, rfl, rfl, by kernel_rfl, fun K a fd FD => bind_none rfl (FunD.bindsN (ps := p4) FD fun _ _ _ _ _ _ us hl => match us, hl with | [_, _], _ => rfl)⟩
theorem ok5 : DOk pk 5 f5 d5 := ⟨rfl, by kernel_rfl, ⟨by kernel_rfl, by kernel_rfl, by kernel_rfl, by decide +kernel, by kernel_rfl, by decide +kernel, by decide +kernel⟩, rfl, rfl, by kernel_rfl, fun K a fd FD => bind_none rfl (FunD.bindsN (ps := p5) FD fun _ _ _ _ _ _ us hl => match us, hl with | [_, _], _ => rfl)⟩
theorem ok6 : DOk pk 6 f6 d6 := ⟨rfl, by kernel_rfl, ⟨by kernel_rfl, by kernel_rfl, by kernel_rfl, by decide +kernel, by kernel_rfl, by decide +kernel, by decide +kernel⟩, rfl, rfl, by kernel_rfl, fun K a fd FD => bind_none rfl (FunD.bindsN (ps := p6) FD fun _ _ _ _ _ _ us hl => match us, hl with | [_, _], _ => rfl)⟩
theorem ok7 : DOk pk 7 f7 d7 := ⟨rfl, by kernel_rfl, ⟨by kernel_rfl, by kernel_rfl, by kernel_rfl, by decide +kernel, by kernel_rfl, by decide +kernel, by decide +kernel⟩, rfl, rfl, by kernel_rfl, fun K a fd FD => bind_none rfl (FunD.bindsN (ps := p7) FD fun _ _ _ _ _ _ us hl => match us, hl with | [_, _], _ => rfl)⟩
theorem ok8 : DOk pk 8 f8 d8 := ⟨rfl, by kernel_rfl, ⟨by kernel_rfl, by kernel_rfl, by kernel_rfl, by decide +kernel, by kernel_rfl, by decide +kernel, by decide +kernel⟩, rfl, rfl, by kernel_rfl, fun K a fd FD => bind_none rfl (FunD.bindsN (ps := p8) FD fun _ _ _ _ _ _ us hl => match us, hl with | [_, _], _ => rfl)⟩
theorem ok9 : DOk pk 9 f9 d9 := ⟨rfl, by kernel_rfl, ⟨by kernel_rfl, by kernel_rfl, by kernel_rfl, by decide +kernel, by kernel_rfl, by decide +kernel, by decide +kernel⟩, rfl, rfl, by kernel_rfl, fun K a fd FD => bind_none rfl (FunD.bindsN (ps := p9) FD fun _ _ _ _ _ _ us hl => match us, hl with | [_, _], _ => rfl)⟩
theorem ok10 : DOk pk 10 f10 d10 := ⟨rfl, by kernel_rfl, ⟨by kernel_rfl, by kernel_rfl, by kernel_rfl, by decide +kernel, by kernel_rfl, by decide +kernel, by decide +kernel⟩, rfl, rfl, by kernel_rfl, fun K a fd FD => bind_none rfl (FunD.bindsN (ps := p10) FD fun _ _ _ _ _ _ us hl => match us, hl with | [_, _], _ => rfl)⟩
theorem ok11 : DOk pk 11 f11 d11 := ⟨rfl, by kernel_rfl, ⟨by kernel_rfl, by kernel_rfl, by kernel_rfl, by decide +kernel, by kernel_rfl, by decide +kernel, by decide +kernel⟩, rfl, rfl, by kernel_rfl, fun K a fd FD => bind_none rfl (FunD.bindsN (ps := p11) FD fun _ _ _ _ _ _ us hl => match us, hl with | [_, _], _ => rfl)⟩
theorem ok12 : DOk pk 12 f12 d12 := ⟨rfl, by kernel_rfl, ⟨by kernel_rfl, by kernel_rfl, by kernel_rfl, by decide +kernel, by kernel_rfl, by decide +kernel, by decide +kernel⟩, rfl, rfl, by kernel_rfl, fun K a fd FD => bind_none rfl (FunD.bindsN (ps := p12) FD fun _ _ _ _ _ _ us hl => match us, hl with | [_], _ => rfl)⟩
theorem ok13 : DOk pk 13 f13 d13 := ⟨rfl, by kernel_rfl, ⟨by kernel_rfl, by kernel_rfl, by kernel_rfl, by decide +kernel, by kernel_rfl, by decide +kernel, by decide +kernel⟩, rfl, rfl, by kernel_rfl, fun K a fd FD => bind_none rfl (FunD.bindsN (ps := p13) FD fun _ _ _ _ _ _ us hl => match us, hl with | [_], _ => rfl)⟩
theorem ok14 : DOk pk 14 f14 d14 := ⟨rfl, by kernel_rfl, ⟨by kernel_rfl, by kernel_rfl, by kernel_rfl, by decide +kernel, by kernel_rfl, by decide +kernel, by decide +kernel⟩, rfl, rfl, by kernel_rfl, fun K a fd FD => bind_none rfl (FunD.bindsN (ps := p14) FD fun _ _ _ _ _ _ us hl => match us, hl with | [_, _], _ => rfl)⟩
theorem ok15 : DOk pk 15 f15 d15 := ⟨rfl, by kernel_rfl, ⟨by kernel_rfl, by kernel_rfl, by kernel_rfl, by decide +kernel, by kernel_rfl, by decide +kernel, by decide +kernel⟩, rfl, rfl, by kernel_rfl, fun K a fd FD => bind_none rfl (FunD.bindsN (ps := p15) FD fun _ _ _ _ _ _ us hl => match us, hl with | [_, _], _ => rfl)⟩
theorem ok16 : DOk pk 16 f16 d16 := ⟨rfl, by kernel_rfl, ⟨by kernel_rfl, by kernel_rfl, by kernel_rfl, by decide +kernel, by kernel_rfl, by decide +kernel, by decide +kernel⟩, rfl, rfl, by kernel_rfl, fun K a fd FD => bind_none rfl (FunD.bindsN (ps := p16) FD fun _ _ _ _ _ _ us hl => match us, hl with | [_, _, _], _ => rfl)⟩
theorem ok17 : DOk pk 17 f17 d17 := ⟨rfl, by kernel_rfl, ⟨by kernel_rfl, by kernel_rfl, by kernel_rfl, by decide +kernel, by kernel_rfl, by decide +kernel, by decide +kernel⟩, rfl, rfl, by kernel_rfl, fun K a fd FD => bind_none rfl (FunD.bindsN (ps := p17) FD fun _ _ _ _ _ _ us hl => match us, hl with | [_, _, _], _ => rfl)⟩
theorem ok18 : DOk pk 18 f18 d18 := ⟨rfl, by kernel_rfl, ⟨by kernel_rfl, by kernel_rfl, by kernel_rfl, by decide +kernel, by kernel_rfl, by decide +kernel, by decide +kernel⟩, rfl, rfl, by kernel_rfl, fun K a fd FD => bind_none rfl (FunD.bindsN (ps := p18) FD fun _ _ _ _ _ _ us hl => match us, hl with | [_, _, _], _ => rfl)⟩
theorem ok19 : DOk pk 19 f19 d19 := ⟨rfl, by kernel_rfl, ⟨by kernel_rfl, by kernel_rfl, by kernel_rfl, by decide +kernel, by kernel_rfl, by decide +kernel, by decide +kernel⟩, rfl, rfl, by kernel_rfl, fun K a fd FD => bind_none rfl (FunD.bindsN (ps := p19) FD fun _ _ _ _ _ _ us hl => match us, hl with | [_, _, _], _ => rfl)⟩
theorem ok20 : DOk pk 20 f20 d20 := ⟨rfl, by kernel_rfl, ⟨by kernel_rfl, by kernel_rfl, by kernel_rfl, by decide +kernel, by kernel_rfl, by decide +kernel, by decide +kernel⟩, rfl, rfl, by kernel_rfl, fun K a fd FD => bind_none rfl (FunD.bindsN (ps := p20) FD fun _ _ _ _ _ _ us hl => match us, hl with | [_, _, _], _ => rfl)⟩
theorem ok21 : DOk pk 21 f21 d21 := ⟨rfl, by kernel_rfl, ⟨by kernel_rfl, by kernel_rfl, by kernel_rfl, by decide +kernel, by kernel_rfl, by decide +kernel, by decide +kernel⟩, rfl, rfl, by kernel_rfl, fun K a fd FD => bind_none rfl (FunD.bindsN (ps := p21) FD fun _ _ _ _ _ _ us hl => match us, hl with | [_, _, _], _ => rfl)⟩
theorem ok22 : DOk pk 22 f22 d22 := ⟨rfl, by kernel_rfl, ⟨by kernel_rfl, by kernel_rfl, by kernel_rfl, by decide +kernel, by kernel_rfl, by decide +kernel, by decide +kernel⟩, rfl, rfl, by kernel_rfl, fun K a fd FD => bind_none rfl (FunD.bindsN (ps := p22) FD fun _ _ _ _ _ _ us hl => match us, hl with | [_, _, _], _ => rfl)⟩
theorem ok23 : DOk pk 23 f23 d23 := ⟨rfl, by kernel_rfl, ⟨by kernel_rfl, by kernel_rfl, by kernel_rfl, by decide +kernel, by kernel_rfl, by decide +kernel, by decide +kernel⟩, rfl, rfl, by kernel_rfl, fun K a fd FD => bind_none rfl (FunD.bindsN (ps := p23) FD fun _ _ _ _ _ _ us hl => match us, hl with | [_, _, _], _ => rfl)⟩
theorem ok24 : DOk pk 24 f24 d24 := ⟨rfl, by kernel_rfl, ⟨by kernel_rfl, by kernel_rfl, by kernel_rfl, by decide +kernel, by kernel_rfl, by decide +kernel, by decide +kernel⟩, rfl, rfl, by kernel_rfl, fun K a fd FD => bind_none rfl (FunD.bindsN (ps := p24) FD fun _ _ _ _ _ _ us hl => match us, hl with | [_, _, _], _ => rfl)⟩
theorem ok25 : DOk pk 25 f25 d25 := ⟨rfl, by kernel_rfl, ⟨by kernel_rfl, by kernel_rfl, by kernel_rfl, by decide +kernel, by kernel_rfl, by decide +kernel, by decide +kernel⟩, rfl, rfl, by kernel_rfl, fun K a fd FD => bind_none rfl (FunD.bindsN (ps := p25) FD fun _ _ _ _ _ _ us hl => match us, hl with | [_], _ => rfl)⟩
theorem ok26 : DOk pk 26 f26 d26 := ⟨rfl, by kernel_rfl, ⟨by kernel_rfl, by kernel_rfl, by kernel_rfl, by decide +kernel, by kernel_rfl, by decide +kernel, by decide +kernel⟩, rfl, rfl, by kernel_rfl, fun K a fd FD => bind_none rfl (FunD.bindsN (ps := p26) FD fun _ _ _ _ _ _ us hl => match us, hl with | [_, _, _], _ => rfl)⟩
theorem ok27 : DOk pk 27 f27 d27 := ⟨rfl, by kernel_rfl, ⟨by kernel_rfl, by kernel_rfl, by kernel_rfl, by decide +kernel, by kernel_rfl, by decide +kernel, by decide +kernel⟩, rfl, rfl, by kernel_rfl, fun K a fd FD => bind_none rfl (FunD.bindsN (ps := p27) FD fun _ _ _ _ _ _ us hl => match us, hl with | [_], _ => rfl)⟩
theorem ok28 : DOk pk 28 f28 d28 := ⟨rfl, by kernel_rfl, ⟨by kernel_rfl, by kernel_rfl, by kernel_rfl, by decide +kernel, by kernel_rfl, by decide +kernel, by decide +kernel⟩, rfl, rfl, by kernel_rfl, fun K a fd FD => bind_none rfl (FunD.bindsN (ps := p28) FD fun _ _ _ _ _ _ us hl => match us, hl with | [_, _], _ => rfl)⟩
theorem ok29 : DOk pk 29 f29 d29 := ⟨rfl, by kernel_rfl, ⟨by kernel_rfl, by kernel_rfl, by kernel_rfl, by decide +kernel, by kernel_rfl, by decide +kernel, by decide +kernel⟩, rfl, rfl, by kernel_rfl, fun K a fd FD => bind_none rfl (FunD.bindsN (ps := p29) FD fun _ _ _ _ _ _ us hl => match us, hl with | [_, _], _ => rfl)⟩
theorem ok30 : DOk pk 30 f30 d30 := ⟨rfl, by kernel_rfl, ⟨by kernel_rfl, by kernel_rfl, by kernel_rfl, by decide +kernel, by kernel_rfl, by decide +kernel, by decide +kernel⟩, rfl, rfl, by kernel_rfl, fun K a fd FD => bind_none rfl (FunD.bindsN (ps := p30) FD fun _ _ _ _ _ _ us hl => match us, hl with | [_, _, _], _ => rfl)⟩
theorem ok31 : DOk pk 31 f31 d31 := ⟨rfl, by kernel_rfl, ⟨by kernel_rfl, by kernel_rfl, by kernel_rfl, by decide +kernel, by kernel_rfl, by decide +kernel, by decide +kernel⟩, rfl, rfl, by kernel_rfl, fun K a fd FD => bind_none rfl (FunD.bindsN (ps := p31) FD fun _ _ _ _ _ _ us hl => match us, hl with | [_], _ => rfl)⟩
theorem ok32 : DOk pk 32 f32 d32 := ⟨rfl, by kernel_rfl, ⟨by kernel_rfl, by kernel_rfl, by kernel_rfl, by decide +kernel, by kernel_rfl, by decide +kernel, by decide +kernel⟩, rfl, rfl, by kernel_rfl, fun K a fd FD => bind_none rfl (FunD.bindsN (ps := p32) FD fun _ _ _ _ _ _ us hl => match us, hl with | [_], _ => rfl)⟩
theorem ok33 : DOk pk 33 f33 d33 := ⟨rfl, by kernel_rfl, ⟨by kernel_rfl, by kernel_rfl, by kernel_rfl, by decide +kernel, by kernel_rfl, by decide +kernel, by decide +kernel⟩, rfl, rfl, by kernel_rfl, fun K a fd FD => bind_none rfl (FunD.bindsN (ps := p33) FD fun _ _ _ _ _ _ us hl => match us, hl with | [_], _ => rfl)⟩
theorem ok34 : DOk pk 34 f34 d34 := ⟨rfl, by kernel_rfl, ⟨by kernel_rfl, by kernel_rfl, by kernel_rfl, by decide +kernel, by kernel_rfl, by decide +kernel, by decide +kernel⟩, rfl, rfl, by kernel_rfl, fun K a fd FD => bind_none rfl (FunD.bindsN (ps := p34) FD fun _ _ _ _ _ _ us hl => match us, hl with | [_, _], _ => rfl)⟩
theorem ok35 : DOk pk 35 f35 d35 := ⟨rfl, by kernel_rfl, ⟨by kernel_rfl, by kernel_rfl, by kernel_rfl, by decide +kernel, by kernel_rfl, by decide +kernel, by decide +kernel⟩, rfl, rfl, by kernel_rfl, fun K a fd FD => bind_none rfl (FunD.bindsN (ps := p35) FD fun _ _ _ _ _ _ us hl => match us, hl with | [_, _], _ => rfl)⟩
theorem hD : ∀ f F, pk.fns[f]? = some F → ∃ d ∈ defs, DOk pk f F d
  | 0, F, h => by cases h; exact ⟨d0, List.mem_of_getElem? (i := 0) rfl, ok0⟩
  | 1, F, h => by cases h; exact ⟨d1, List.mem_of_getElem? (i := 1) rfl, ok1⟩
  | 2, F, h => by cases h; exact ⟨d2, List.mem_of_getElem? (i := 2) rfl, ok2⟩
  | 3, F, h => by cases h; exact ⟨d3, List.mem_of_getElem? (i := 3) rfl, ok3⟩
  | 4, F, h => by cases h; exact ⟨d4, List.mem_of_getElem? (i := 4) rfl, ok4⟩
  | 5, F, h => by cases h; exact ⟨d5, List.mem_of_getElem? (i := 5) rfl, ok5⟩
  | 6, F, h => by cases h; exact ⟨d6, List.mem_of_getElem? (i := 6) rfl, ok6⟩
  | 7, F, h => by cases h; exact ⟨d7, List.mem_of_getElem? (i := 7) rfl, ok7⟩
  | 8, F, h => by cases h; exact ⟨d8, List.mem_of_getElem? (i := 8) rfl, ok8⟩
  | 9, F, h => by cases h; exact ⟨d9, List.mem_of_getElem? (i := 9) rfl, ok9⟩
  | 10, F, h => by cases h; exact ⟨d10, List.mem_of_getElem? (i := 10) rfl, ok10⟩
  | 11, F, h => by cases h; exact ⟨d11, List.mem_of_getElem? (i := 11) rfl, ok11⟩
  | 12, F, h => by cases h; exact ⟨d12, List.mem_of_getElem? (i := 12) rfl, ok12⟩
  | 13, F, h => by cases h; exact ⟨d13, List.mem_of_getElem? (i := 13) rfl, ok13⟩
  | 14, F, h => by cases h; exact ⟨d14, List.mem_of_getElem? (i := 14) rfl, ok14⟩
  | 15, F, h => by cases h; exact ⟨d15, List.mem_of_getElem? (i := 15) rfl, ok15⟩
  | 16, F, h => by cases h; exact ⟨d16, List.mem_of_getElem? (i := 16) rfl, ok16⟩
  | 17, F, h => by cases h; exact ⟨d17, List.mem_of_getElem? (i := 17) rfl, ok17⟩
  | 18, F, h => by cases h; exact ⟨d18, List.mem_of_getElem? (i := 18) rfl, ok18⟩
  | 19, F, h => by cases h; exact ⟨d19, List.mem_of_getElem? (i := 19) rfl, ok19⟩
  | 20, F, h => by cases h; exact ⟨d20, List.mem_of_getElem? (i := 20) rfl, ok20⟩
  | 21, F, h => by cases h; exact ⟨d21, List.mem_of_getElem? (i := 21) rfl, ok21⟩
  | 22, F, h => by cases h; exact ⟨d22, List.mem_of_getElem? (i := 22) rfl, ok22⟩
  | 23, F, h => by cases h; exact ⟨d23, List.mem_of_getElem? (i := 23) rfl, ok23⟩
  | 24, F, h => by cases h; exact ⟨d24, List.mem_of_getElem? (i := 24) rfl, ok24⟩
  | 25, F, h => by cases h; exact ⟨d25, List.mem_of_getElem? (i := 25) rfl, ok25⟩
  | 26, F, h => by cases h; exact ⟨d26, List.mem_of_getElem? (i := 26) rfl, ok26⟩
  | 27, F, h => by cases h; exact ⟨d27, List.mem_of_getElem? (i := 27) rfl, ok27⟩
  | 28, F, h => by cases h; exact ⟨d28, List.mem_of_getElem? (i := 28) rfl, ok28⟩
  | 29, F, h => by cases h; exact ⟨d29, List.mem_of_getElem? (i := 29) rfl, ok29⟩
  | 30, F, h => by cases h; exact ⟨d30, List.mem_of_getElem? (i := 30) rfl, ok30⟩
  | 31, F, h => by cases h; exact ⟨d31, List.mem_of_getElem? (i := 31) rfl, ok31⟩
  | 32, F, h => by cases h; exact ⟨d32, List.mem_of_getElem? (i := 32) rfl, ok32⟩
  | 33, F, h => by cases h; exact ⟨d33, List.mem_of_getElem? (i := 33) rfl, ok33⟩
  | 34, F, h => by cases h; exact ⟨d34, List.mem_of_getElem? (i := 34) rfl, ok34⟩
  | 35, F, h => by cases h; exact ⟨d35, List.mem_of_getElem? (i := 35) rfl, ok35⟩
  | k + 36, F, h => by rw [List.getElem?_eq_none (by show 36 ≤ k + 36; omega)] at h; cases h
end I86
set_option linter.all false
set_option maxRecDepth 100000
set_option maxHeartbeats 1000000
/-! M18: the interpreter's equations, to be used by simp. -/
namespace MP
open PySem
section
variable {c : Cfg} {α β : Type} {st : St} {env : En} {x : Option D} {p q p1 p2 p3 p4 : Pos} {m : Bool} {kk : Nat} {a b e : E} {es : Es}
@[simp] theorem ok_bind (v : α) (k : α → St → Res β) : (Res.ok v st).bind k = k v st := id rfl
@[simp] theorem bad_bind (k : α → St → Res β) : (Res.bad : Res α).bind k = .bad := id rfl
@[simp] theorem exc_bind {cc : Nat} {as : List D} (k : α → St → Res β) : (Res.exc cc as st : Res α).bind k = .exc cc as st := id rfl
@[simp] theorem ok_bindS (v : α) (k : α → St → RS) : (Res.ok v st).bindS env k = k v st := id rfl
@[simp] theorem bad_bindS (k : α → St → RS) : (Res.bad : Res α).bindS env k = .bad := id rfl
@[simp] theorem exc_bindS {cc : Nat} {as : List D} (k : α → St → RS) : (Res.exc cc as st : Res α).bindS env k = .exc cc as env st := id rfl
@[simp] theorem next_bind (k : En → St → RS) : (RS.next env st).bind k = k env st := id rfl
@[simp] theorem ret_bind {d : D} (k : En → St → RS) : (RS.ret d st).bind k = .ret d st := id rfl
@[simp] theorem brk_bind (k : En → St → RS) : (RS.brk env st).bind k = .brk env st := id rfl
@[simp] theorem cont_bind (k : En → St → RS) : (RS.cont env st).bind k = .cont env st := id rfl
@[simp] theorem rexc_bind {cc : Nat} {as : List D} (k : En → St → RS) : (RS.exc cc as env st).bind k = .exc cc as env st := id rfl
@[simp] theorem rbad_bind (k : En → St → RS) : RS.bad.bind k = .bad := id rfl
@[simp] theorem ofO_some' (v : α) : ofO (some v) st = .ok v st := id rfl
@[simp] theorem ofO_none' : (ofO none st : Res α) = .bad := id rfl
/-! names -/
@[simp] theorem getV_succ (i : Nat) : getV (x :: env) (i + 1) = getV env i := id rfl
@[simp] theorem getV_int (i : Int) : getV (some (.int i) :: env) 0 = some (.int i) := id rfl
@[simp] theorem getV_bl (i : Bool) : getV (some (.bl i) :: env) 0 = some (.bl i) := id rfl
@[simp] theorem getV_str (i : Str) : getV (some (.str i) :: env) 0 = some (.str i) := id rfl
@[simp] theorem getV_non : getV (some .non :: env) 0 = some .non := id rfl
@[simp] theorem getV_tup (i : List D) : getV (some (.tup i) :: env) 0 = some (.tup i) := id rfl
@[simp] theorem getV_lst (i : List D) : getV (some (.lst i) :: env) 0 = some (.lst i) := id rfl
@[simp] theorem getV_obj (k : Nat) (i : List (Nat × D)) : getV (some (.obj k i) :: env) 0 = some (.obj k i) := id rfl
@[simp] theorem getV_ref (i : Nat) : getV (some (.ref i) :: env) 0 = some (.ref i) := id rfl
/-! expressions -/
@[simp] theorem ev_cst (k : Cst) : ev c (.cst p kk k) env st = .ok k.d st := by rw [ev]
@[simp] theorem ev_var (i : Nat) : ev c (.var p i) (x :: env) st = ofO (getV (x :: env) i) st := by rw [ev]
@[simp] theorem ev_glob (g : Nat) : ev c (.glob p g) env st = ofO (c.glob g) st := by rw [ev]
@[simp] theorem ev_bin (o : BOp) : ev c (.bin p m o a b) env st = (ev c a env st).bind fun x s => (ev c b env s).bind fun y s => binD o m x y s := by rw [ev]
def negD (x : D) (s : St) : Res D := match x with
  | .int i => .ok (.int (-i)) s
  | _ => .bad
@[simp] theorem negD_int (i : Int) : negD (.int i) st = .ok (.int (-i)) st := id rfl
@[simp] theorem ev_neg : ev c (.neg p a) env st = (ev c a env st).bind negD := by
  rw [ev]; rfl
@[simp] theorem ev_not : ev c (.not p a) env st = ((ev c a env st).bind tstD).bind fun b s => .ok (.bl (!b)) s := by rw [ev]
def bsel (x : D) (t f : Res D) : Res D := match x with
  | .bl true => t
  | .bl false => f
  | _ => .bad
@[simp] theorem bsel_bl (b : Bool) (t f : Res D) : bsel (.bl b) t f = if b = true then t else f := by cases b <;> rfl
@[simp] theorem ev_and : ev c (.and p es) env st = evAnd c es env st := by rw [ev]
@[simp] theorem ev_or : ev c (.or p es) env st = evOr c es env st := by rw [ev]
@[simp] theorem evAnd_one : evAnd c (.cons a .nil) env st = ev c a env st := by rw [evAnd]
@[simp] theorem evOr_one : evOr c (.cons a .nil) env st = ev c a env st := by rw [evOr]
@[simp] theorem evAnd_two : evAnd c (.cons a (.cons b es)) env st = (ev c a env st).bind fun x s => bsel x (evAnd c (.cons b es) env s) (.ok (.bl false) s) := by
  rw [evAnd]; rfl
  exact fun z => nomatch z
@[simp] theorem evOr_two : evOr c (.cons a (.cons b es)) env st = (ev c a env st).bind fun x s => bsel x (.ok (.bl true) s) (evOr c (.cons b es) env s) := by
  rw [evOr]
  · congr 1
    funext x s
    cases x <;> first | rfl | (rename_i b; cases b <;> rfl)
  · exact fun z => nomatch z
@[simp] theorem ev_cmp (o : COp) : ev c (.cmp p o a b) env st = (ev c a env st).bind fun x s => (ev c b env s).bind fun y s => ofO ((cmpD s o x y).map .bl) s := by rw [ev]
@[simp] theorem ev_chain (o o' : COp) (d : E) : ev c (.chain p o o' a b d) env st = (ev c a env st).bind fun x s => (ev c b env s).bind fun y s => (ofO (cmpD s o x y) s).bind fun q s =>
    if q then (ev c d env s).bind fun z s => ofO ((cmpD s o' y z).map .bl) s else .ok (.bl false) s := by rw [ev]
@[simp] theorem ev_ifx (t : E) : ev c (.ifx p t a b) env st = ((ev c t env st).bind tstD).bind fun q s => if q then ev c a env s else ev c b env s := by rw [ev]
@[simp] theorem ev_tup : ev c (.tup p kk es) env st = (evs c es env st).bind fun xs s => .ok (.tup xs) s := by rw [ev]
@[simp] theorem ev_lst : ev c (.lst p m es) env st = (evs c es env st).bind fun xs s => mkL m xs s := by rw [ev]
@[simp] theorem ev_idx : ev c (.idx p a b) env st = (ev c a env st).bind fun x s => (ev c b env s).bind fun y s => ofO (idxD s x y) s := by rw [ev]
@[simp] theorem ev_slc (lo hi : O) : ev c (.slc p p2 m a lo hi) env st = (ev c a env st).bind fun x s => (evO c lo env s).bind fun l s => (evO c hi env s).bind fun h s => slcD m x l h s := by rw [ev]
@[simp] theorem ev_call (f : Nat) : ev c (.call p q f es) env st = (evs c es env st).bind fun xs s => c.call f xs s := by rw [ev]
@[simp] theorem ev_make (k : Nat) : ev c (.make p q k es) env st = (evs c es env st).bind fun xs s => makeD c k xs s := by rw [ev]
@[simp] theorem ev_bi (o : Bi) : ev c (.bi p q o m es) env st = (evs c es env st).bind fun xs s => biD o m xs s := by rw [ev]
@[simp] theorem ev_isin (t : Ty) : ev c (.isin p q a p2 t) env st = (ev c a env st).bind fun x s => ofO ((isT s x t).map .bl) s := by rw [ev]
def selM (o : Option Nat) (k : Nat → Res D) : Res D := match o with
  | some g => k g
  | none => .bad
@[simp] theorem selM_some (g : Nat) (k : Nat → Res D) : selM (some g) k = k g := id rfl
@[simp] theorem ev_meth (f : Nat) : ev c (.meth p q a f es) env st = (ev c a env st).bind fun x s => selM (findM c x f s) fun g => (evs c es env s).bind fun xs s => c.call g (x :: xs) s := by
  rw [ev]; rfl
@[simp] theorem ev_bm (o : Bm) : ev c (.bm p q o m a es) env st = (ev c a env st).bind fun x s => if bmT o x s then (evs c es env s).bind fun xs s => bmD o m x xs s else .bad := by rw [ev]
@[simp] theorem ev_attr (f : Nat) : ev c (.attr p a f) env st = (ev c a env st).bind fun x s => attrD c x f s := by rw [ev]
def rngK (m : Bool) (x : D) (s : St) : Res D := match x with
  | .int i => if small i then mkL m (rangeL 0 i) s else .bad
  | _ => .bad
@[simp] theorem rngK_int (i : Int) : rngK m (.int i) st = if small i then mkL m (rangeL 0 i) st else .bad := id rfl
@[simp] theorem ev_lrng : ev c (.lrng p q p2 p3 m a) env st = (ev c a env st).bind (rngK m) := by
  rw [ev]; rfl
def frzK (x : D) (s : St) : Res D := match frz 6 x s with
  | some (y, s') => .ok y s'
  | none => .bad
@[simp] theorem ev_frz : ev c (.frz e) env st = (ev c e env st).bind frzK := by
  rw [ev]; rfl
@[simp] theorem ev_comp (cs : Scope) (own : List (Str × Nat)) (elt : E) (tg : Tg) (it : It) (ifs : Es) : ev c (.comp p m cs own elt tg it ifs) env st = (evI c it env st).bind fun wk s => (match wk with
      | .items xs => compL (turnB c (ownS own) elt tg ifs env) xs [] s
      | .cell n => compR (turnB c (ownS own) elt tg ifs env) n c.fuel 0 [] s).bind fun ys s => mkL m ys s := comp_ev ..
@[simp] theorem evs_nil : evs c .nil env st = .ok [] st := by rw [evs]
@[simp] theorem evs_cons : evs c (.cons e es) env st = (ev c e env st).bind fun x s => (evs c es env s).bind fun xs s => .ok (x :: xs) s := by rw [evs]
@[simp] theorem evO_no : evO c .no env st = .ok none st := by rw [evO]
def intK (x : D) (s : St) : Res (Option Int) := match x with
  | .int i => .ok (some i) s
  | _ => .bad
@[simp] theorem intK_int (i : Int) : intK (.int i) st = .ok (some i) st := id rfl
@[simp] theorem evO_yes : evO c (.yes e) env st = (ev c e env st).bind intK := by
  rw [evO]; rfl
def r1K (x : D) (s : St) : Res Wk := match x with
  | .int i => if small i then .ok (.items (rangeL 0 i)) s else .bad
  | _ => .bad
@[simp] theorem r1K_int (i : Int) : r1K (.int i) st = if small i then .ok (.items (rangeL 0 i)) st else .bad := id rfl
def r2K (x y : D) (s : St) : Res Wk := match x, y with
  | .int i, .int j => if small i ∧ small j then .ok (.items (rangeL i j)) s else .bad
  | _, _ => .bad
@[simp] theorem r2K_int (i j : Int) : r2K (.int i) (.int j) st = if small i ∧ small j then .ok (.items (rangeL i j)) st else .bad := id rfl
@[simp] theorem evI_r1 : evI c (.rng1 p q a) env st = (ev c a env st).bind r1K := by
  rw [evI]; rfl
@[simp] theorem evI_r2 : evI c (.rng2 p q a b) env st = (ev c a env st).bind fun x s => (ev c b env s).bind fun y s => r2K x y s := by
  rw [evI]; rfl
@[simp] theorem evI_of : evI c (.of e) env st = (ev c e env st).bind fun x s => ofO (wkD s x) s := by rw [evI]
@[simp] theorem evAllT_nil : evAllT c .nil env st = .ok true st := by rw [evAllT]
@[simp] theorem evAllT_cons : evAllT c (.cons e es) env st = (ev c e env st).bind fun x s => (tstD x s).bind fun q s => if q then evAllT c es env s else .ok false s := by rw [evAllT]
@[simp] theorem evT_eq : evT c e env st = (ev c e env st).bind tstD := id rfl
/-! statements -/
variable {s : S} {ss sa sb : Ss}
@[simp] theorem exs_nil : exs c .nil env st = .next env st := by rw [exs]
@[simp] theorem exs_cons : exs c (.cons s ss) (x :: env) st = (ex c s (x :: env) st).bind (exs c ss) := by
  rw [exs]
  cases ex c s (x :: env) st <;> rfl
@[simp] theorem ex_name (i : Nat) : ex c (.asg p (.name q i) e) (x :: env) st = (ev c e (x :: env) st).bindS (x :: env) fun d s => .next ((x :: env).set i (some d)) s := by
  rw [ex]; rfl
def tupK (ns : List (Pos × Nat)) (env : En) (d : D) (s : St) : RS := match d with
  | .tup xs => if xs.length = ns.length then .next ((ns.zip xs).foldl (fun e (q : (Pos × Nat) × D) => e.set q.1.2 (some q.2)) env) s else .bad
  | _ => .bad
@[simp] theorem tupK_tup (ns : List (Pos × Nat)) (xs : List D) : tupK ns env (.tup xs) st = if xs.length = ns.length then .next ((ns.zip xs).foldl (fun e (q : (Pos × Nat) × D) => e.set q.1.2 (some q.2)) env) st else .bad := id rfl
@[simp] theorem ex_tup (ns : List (Pos × Nat)) : ex c (.asg p (.tup q kk ns) e) (x :: env) st = (ev c e (x :: env) st).bindS (x :: env) fun d s => tupK ns (x :: env) d s := by
  rw [ex]
  congr 1
  funext d s
  cases d <;> try rfl
  rename_i xs
  unfold asgG tupK bindT
  dsimp only
  by_cases h : xs.length = ns.length
  · rw [if_pos h, if_pos h]
  · rw [if_neg h, if_neg h]
def setK (env : En) (a i v : D) (s : St) : RS := match setD a i v s with
  | some s' => .next env s'
  | none => .bad
@[simp] theorem ex_sub : ex c (.asg p (.sub q a b) e) (x :: env) st = (ev c e (x :: env) st).bindS (x :: env) fun d s => (ev c a (x :: env) s).bindS (x :: env) fun o s => (ev c b (x :: env) s).bindS (x :: env) fun i s => setK (x :: env) o i d s := by
  rw [ex]; rfl
def setFK (c : Cfg) (env : En) (o : D) (f : Nat) (d : D) (s : St) : RS := if (match clsD s o with | some k => c.isF k f | none => false) then (match setF o f d s with
    | some s' => .next env s'
    | none => .bad) else .bad
@[simp] theorem ex_attr (f : Nat) : ex c (.asg p (.attr q a f) e) (x :: env) st = (ev c e (x :: env) st).bindS (x :: env) fun d s => (ev c a (x :: env) s).bindS (x :: env) fun o s => setFK c (x :: env) o f d s := by
  rw [ex]; rfl
@[simp] theorem ex_par (i j k2 : Nat) : ex c (.par p p1 kk p2 p3 i j p4 k2 a b) (x :: env) st = (ev c a (x :: env) st).bindS (x :: env) fun u s => (ev c b (x :: env) s).bindS (x :: env) fun y s => .next (((x :: env).set i (some u)).set j (some y)) s := by rw [ex]
@[simp] theorem ex_expr : ex c (.expr p e) (x :: env) st = (ev c e (x :: env) st).bindS (x :: env) fun _ s => .next (x :: env) s := by rw [ex]
@[simp] theorem ex_ret : ex c (.ret p e) (x :: env) st = (ev c e (x :: env) st).bindS (x :: env) fun d s => .ret d s := by rw [ex]
@[simp] theorem ex_retN : ex c (.retN p) (x :: env) st = .ret .non st := by rw [ex]
@[simp] theorem ex_if : ex c (.if_ p e sa sb) (x :: env) st = (evT c e (x :: env) st).bindS (x :: env) fun q s => if q then exs c sa (x :: env) s else exs c sb (x :: env) s := by rw [ex]
@[simp] theorem ex_pass : ex c (.pass p) (x :: env) st = .next (x :: env) st := by rw [ex]
@[simp] theorem ex_brk : ex c (.brk p) (x :: env) st = .brk (x :: env) st := by rw [ex]
@[simp] theorem ex_cont : ex c (.cont p) (x :: env) st = .cont (x :: env) st := by rw [ex]
def loopF (c : Cfg) (tg : Tg) (b : Ss) (env : En) (wk : Wk) (s : St) : RS := match wk with
  | .items xs => forL (stepB c tg b) xs env s
  | .cell n => forR (stepB c tg b) n c.fuel 0 env s
@[simp] theorem loopF_items (tg : Tg) (xs : List D) : loopF c tg sb env (.items xs) st = forL (stepB c tg sb) xs env st := id rfl
@[simp] theorem loopF_cell (tg : Tg) (n : Nat) : loopF c tg sb env (.cell n) st = forR (stepB c tg sb) n c.fuel 0 env st := id rfl
@[simp] theorem ex_for (tg : Tg) (it : It) : ex c (.for_ p tg it sb) (x :: env) st = (evI c it (x :: env) st).bindS (x :: env) fun wk s => loopF c tg sb (x :: env) wk s := by
  rw [for_ev]; rfl
@[simp] theorem ex_while : ex c (.while_ p e sb) (x :: env) st = whileN (fun e' s => evT c e e' s) (fun e s => exs c sb e s) c.fuel (x :: env) st := by rw [ex]
def frzS (i : Nat) (env : En) (st : St) : RS := match env[i]?.join with
  | some d => match frz 6 d st with
    | some (d', st') => .next (env.set i (some d')) st'
    | none => .bad
  | none => .bad
@[simp] theorem ex_frz (i : Nat) : ex c (.frz i) (x :: env) st = frzS i (x :: env) st := by
  rw [ex]; rfl
@[simp] theorem stepB_name (i : Nat) (d : D) : stepB c (.name p i) sb d env st = exs c sb (env.set i (some d)) st := id rfl
/-! operations on values -/
@[simp] theorem cst_non : Cst.non.d = .non := id rfl
@[simp] theorem cst_bl (b : Bool) : (Cst.bl b).d = .bl b := id rfl
@[simp] theorem cst_int (i : Int) : (Cst.int i).d = .int i := id rfl
@[simp] theorem cst_str (i : Str) : (Cst.str i).d = .str i := id rfl
@[simp] theorem tst_bl (b : Bool) : tstD (.bl b) st = .ok b st := id rfl
@[simp] theorem tst_int (i : Int) : tstD (.int i) st = .ok (i != 0) st := id rfl
@[simp] theorem bin_add (i j : Int) : binD .add m (.int i) (.int j) st = .ok (.int (i + j)) st := id rfl
@[simp] theorem bin_sub (i j : Int) : binD .sub m (.int i) (.int j) st = .ok (.int (i - j)) st := id rfl
@[simp] theorem bin_mul (i j : Int) : binD .mul m (.int i) (.int j) st = if MulOk i j then .ok (.int (i * j)) st else .bad := id rfl
@[simp] theorem bin_fdiv (i j : Int) : binD .fdiv m (.int i) (.int j) st = if DivOk j then .ok (.int (i.fdiv j)) st else .bad := id rfl
@[simp] theorem bin_mod (i j : Int) : binD .mod m (.int i) (.int j) st = if j ≠ 0 then .ok (.int (i.fmod j)) st else .bad := id rfl
@[simp] theorem bin_lst (xs ys : List D) : binD .add m (.lst xs) (.lst ys) st = if xs.length + ys.length ≤ lim then mkL m (xs ++ ys) st else .bad := id rfl
@[simp] theorem mkL_f (xs : List D) : mkL false xs st = .ok (.lst xs) st := id rfl
@[simp] theorem mkL_t (xs : List D) : mkL true xs st = .ok (.ref st.length) (st ++ [.lst xs]) := id rfl
@[simp] theorem cmp_lt (i j : Int) : cmpD st .lt (.int i) (.int j) = some (decide (i < j)) := id rfl
@[simp] theorem cmp_le (i j : Int) : cmpD st .le (.int i) (.int j) = some (decide (i ≤ j)) := id rfl
@[simp] theorem cmp_gt (i j : Int) : cmpD st .gt (.int i) (.int j) = some (decide (j < i)) := id rfl
@[simp] theorem cmp_ge (i j : Int) : cmpD st .ge (.int i) (.int j) = some (decide (j ≤ i)) := id rfl
@[simp] theorem cmp_eq_int (i j : Int) : cmpD st .eq (.int i) (.int j) = some (decide (i = j)) := by
  show some (PyData.eqv (.int i) (.int j)) = _
  congr 1
@[simp] theorem cmp_ne_int (i j : Int) : cmpD st .ne (.int i) (.int j) = some (!decide (i = j)) := by
  show (cmpD st .eq (.int i) (.int j)).map (!·) = _
  rw [cmp_eq_int]
  rfl
@[simp] theorem cmp_is_non (a : D) : cmpD st .isN a .non = (match a with | .non => some true | .exc _ _ => none | _ => some false) := id rfl
@[simp] theorem cmp_not_non (a : D) : cmpD st .notN a .non = (match a with | .non => some false | .exc _ _ => none | _ => some true) := id rfl
@[simp] theorem idx_tup0 (a : D) (xs : List D) : idxD st (.tup (a :: xs)) (.int 0) = some a := by
  simp [idxD, L2.atI, L2.ixN]
@[simp] theorem idx_tup1 (a b : D) (xs : List D) : idxD st (.tup (a :: b :: xs)) (.int 1) = some b := by
  have h : (1 : Int) < (xs.length : Int) + 1 + 1 := by omega
  simp [idxD, L2.atI, L2.ixN, h]
@[simp] theorem bi_abs (i : Int) : biD .abs m [.int i] st = .ok (.int (if i < 0 then -i else i)) st := id rfl
@[simp] theorem bi_int (i : Int) : biD .int1 m [.int i] st = .ok (.int i) st := id rfl
@[simp] theorem bi_max (i j : Int) : biD .max2 m [.int i, .int j] st = .ok (.int (if j > i then j else i)) st := id rfl
@[simp] theorem bi_min (i j : Int) : biD .min2 m [.int i, .int j] st = .ok (.int (if j < i then j else i)) st := id rfl
@[simp] theorem bi_gcd (i j : Int) : biD .gcd m [.int i, .int j] st = .ok (.int (Nat.gcd i.natAbs j.natAbs : Nat)) st := id rfl
@[simp] theorem bi_len_lst (xs : List D) : biD .len m [.lst xs] st = .ok (.int xs.length) st := id rfl
@[simp] theorem bi_len_tup (xs : List D) : biD .len m [.tup xs] st = .ok (.int xs.length) st := id rfl
end
section
variable {P : Pg} {fuel : Nat} {call : Nat → List D → St → Res D}
@[simp] theorem cfg_call : (cfgOf P fuel call).call = call := id rfl
@[simp] theorem cfg_glob : (cfgOf P fuel call).glob = P.glob := id rfl
@[simp] theorem cfg_meth : (cfgOf P fuel call).meth = P.meth := id rfl
@[simp] theorem cfg_prop : (cfgOf P fuel call).prop = P.prop := id rfl
@[simp] theorem cfg_init : (cfgOf P fuel call).init = P.init := id rfl
@[simp] theorem cfg_frozen : (cfgOf P fuel call).frozen = P.frozen := id rfl
@[simp] theorem cfg_isF : (cfgOf P fuel call).isF = P.isF := id rfl
@[simp] theorem cfg_fuel : (cfgOf P fuel call).fuel = fuel := id rfl
end
end MP
namespace MP
open PySem
noncomputable def chkC (a b : St) : Bool := @decide (a = b) (Classical.propDecidable _)
theorem chkC_eq (a b : St) (h : chkC a b = true) : a = b := by
  unfold chkC at h
  exact @of_decide_eq_true _ (Classical.propDecidable _) h
@[simp] theorem chkC_self (a : St) : chkC a a = true := by
  unfold chkC
  exact @decide_eq_true _ (Classical.propDecidable _) rfl
@[simp] theorem fin_f (d : D) (st s : St) : fin chkC false d st s = .ok d s := id rfl
@[simp] theorem fin_same (d : D) (st : St) : fin chkC true d st st = if nr d = true then .ok d st else .bad := by
  unfold fin
  rw [if_pos rfl, List.take_length, chkC_self, Bool.true_and]
@[simp] theorem fin_app (d : D) (st xs : St) : fin chkC true d st (st ++ xs) = if nr d = true then .ok d st else .bad := by
  unfold fin
  rw [if_pos rfl, List.take_left, chkC_self, Bool.true_and]
@[simp] theorem nr_int (i : Int) : nr (.int i) = true := by simp [nr]
@[simp] theorem nr_bl (i : Bool) : nr (.bl i) = true := by simp [nr]
@[simp] theorem nr_str (i : Str) : nr (.str i) = true := by simp [nr]
@[simp] theorem nr_non : nr .non = true := by simp [nr]
@[simp] theorem nr_tup (xs : List D) : nr (.tup xs) = nrs xs := by rw [nr]
@[simp] theorem nr_lst (xs : List D) : nr (.lst xs) = nrs xs := by rw [nr]
@[simp] theorem nrs_nil : nrs [] = true := by rw [nrs]
@[simp] theorem nrs_cons (x : D) (xs : List D) : nrs (x :: xs) = (nr x && nrs xs) := by rw [nrs]
theorem nrs_map {α : Type} (f : α → D) (h : ∀ a, nr (f a) = true) : ∀ l : List α, nrs (l.map f) = true
  | [] => by simp
  | a :: l => by simp [h a, nrs_map f h l]
end MP
set_option linter.all false
set_option maxRecDepth 100000
set_option maxHeartbeats 1000000
namespace W86
open PySem MP I86
abbrev D := MP.D
variable {fuel d : Nat} {st : St}
noncomputable abbrev call (fuel d f : Nat) (as : List D) (st : St) : Res D := callF pk.pg chkC fuel d f as st
theorem call_eq (f : Nat) (F : MP.Fn) (hf : pk.fns[f]? = some F) (as as' : List D) (ha : filled F as = some as') : callF pk.pg chkC fuel (d + 1) f as st = runF pk.pg chkC fuel F (callF pk.pg chkC fuel d) as' st := by
  unfold callF
  have : pk.pg.fns[f]? = some F := hf
  rw [this]
  dsimp only
  rw [ha]
abbrev Rt := Int × Int
def rD (r : Rt) : D := .tup [.int r.1, .int r.2]
@[simp] theorem nr_rD (r : Rt) : nr (rD r) = true := by simp [rD]
@[simp] theorem idx_rD0 (r : Rt) : idxD st (rD r) (.int 0) = some (.int r.1) := by simp [rD]
@[simp] theorem idx_rD1 (r : Rt) : idxD st (rD r) (.int 1) = some (.int r.2) := by simp [rD]
@[simp] theorem getV_rD (r : Rt) (env : En) : getV (some (rD r) :: env) 0 = some (rD r) := rfl
def sgnG (a b : Int) : Int := if b < 0 then -((Nat.gcd a.natAbs b.natAbs : Nat) : Int) else ((Nat.gcd a.natAbs b.natAbs : Nat) : Int)
def mratio (a b : Int) : Rt := (a.fdiv (sgnG a b), b.fdiv (sgnG a b))
theorem ev_ratio (a b : Int) (hb : b ≠ 0) (hs : DivOk (sgnG a b)) : callF pk.pg chkC fuel (d + 1) 0 [.int a, .int b] st = .ok (rD (mratio a b)) st := by
  rw [call_eq 0 f0 rfl _ [.int a, .int b] rfl]
  unfold runF f0 b0 mratio rD
  unfold sgnG at *
  by_cases h : b < 0
  · rw [if_pos h] at *
    simp [hb, h, hs]
  · rw [if_neg h] at *
    simp [hb, h, hs]
def mminus (a b : Rt) : Rt := mratio (a.1 * b.2 - b.1 * a.2) (a.2 * b.2)
theorem ev_minus (a b : Rt) (h1 : MulOk a.1 b.2) (h2 : MulOk b.1 a.2) (h3 : MulOk a.2 b.2) (hb : a.2 * b.2 ≠ 0) (hs : DivOk (sgnG (a.1 * b.2 - b.1 * a.2) (a.2 * b.2))) :
    callF pk.pg chkC fuel (d + 2) 1 [rD a, rD b] st = .ok (rD (mminus a b)) st := by
  rw [call_eq 1 f1 rfl _ [rD a, rD b] rfl]
  unfold runF f1 b1 mminus
  simp [h1, h2, h3, ev_ratio _ _ hb hs]
/-! ranges -/
theorem range_cons (i j : Int) (h : i < j) : rangeL i j = .int i :: rangeL (i + 1) j := by
  unfold rangeL
  have e : (j - i).toNat = (j - (i + 1)).toNat + 1 := by omega
  rw [e, List.range_succ_eq_map, List.map_cons, List.map_map]
  refine congr (congrArg List.cons ?_) (List.map_congr_left fun k _ => ?_)
  · simp
  · show D.int (i + ((k + 1 : Nat) : Int)) = D.int (i + 1 + (k : Int))
    congr 1
    omega
theorem range_nil (i j : Int) (h : j ≤ i) : rangeL i j = [] := by
  unfold rangeL
  have e : (j - i).toNat = 0 := by omega
  rw [e]; rfl
/-! the law's gcd -/
def eucO : Nat → Int → Int → Option Int
  | 0, _, _ => none
  | n + 1, a, b => if b = 0 then some a else eucO n b (a.fmod b)
def gcdB : Ss := match b7 with
  | .cons _ (.cons _ (.cons (.for_ _ _ _ b) _)) => b
  | _ => .nil
theorem gcd_loop (c : Cfg) : ∀ (n : Nat) (i j : Int) (a b g : Int) (k0 r0 : Option D), j = i + n → eucO n a b = some g → forL (stepB c (.name ⟨172, 8, 172, 9⟩ 2) gcdB) (rangeL i j) [some (.int a), some (.int b), k0, r0] st = .ret (.int g) st
  | 0, i, j, a, b, g, k0, r0, hj, h => by cases h
  | n + 1, i, j, a, b, g, k0, r0, hj, h => by
    rw [range_cons i j (by omega)]
    unfold eucO at h
    unfold forL
    by_cases hb : b = 0
    · rw [if_pos hb] at h
      cases h
      simp [gcdB, b7, hb]
    · rw [if_neg hb] at h
      have ih := gcd_loop c n (i + 1) j b (a.fmod b) g (some (.int i)) (some (.int (a.fmod b))) (by omega) h
      simp [gcdB, b7, hb]
      simp [gcdB, b7] at ih
      exact ih
theorem ev_gcd (a b g : Int) (h : eucO 9000 (if a < 0 then -a else a) (if b < 0 then -b else b) = some g) : callF pk.pg chkC fuel (d + 1) 7 [.int a, .int b] st = .ok (.int g) st := by
  rw [call_eq 7 f7 rfl _ [.int a, .int b] rfl]
  have hl := gcd_loop (st := st) (cfgOf pk.pg fuel (callF pk.pg chkC fuel d)) 9000 0 9000 _ _ g none none (by decide) h
  simp [gcdB, b7] at hl
  unfold runF f7 b7
  have hs : small 9000 := by decide
  simp [hs, hl]
end W86
set_option linter.all false
set_option maxRecDepth 100000
set_option maxHeartbeats 1000000
/-! W2: ratios. -/
namespace W86
open PySem MP I86
variable {fuel d : Nat} {st : St}
def qD (q : Rat) : D := .tup [.int q.num, .int q.den]
@[simp] theorem nr_qD (r : Rat) : nr (qD r) = true := by simp [qD]
@[simp] theorem idx_qD0 (r : Rat) : idxD st (qD r) (.int 0) = some (.int r.num) := by simp [qD]
@[simp] theorem idx_qD1 (r : Rat) : idxD st (qD r) (.int 1) = some (.int r.den) := by simp [qD]
@[simp] theorem getV_qD (r : Rat) (env : En) : getV (some (qD r) :: env) 0 = some (qD r) := id rfl
theorem fdiv_exact {a g : Int} (h : g ∣ a) : a.fdiv g = a / g := by
  obtain ⟨k, rfl⟩ := h
  by_cases hg : g = 0
  · subst hg; simp
  · rw [Int.mul_fdiv_cancel_left _ hg, Int.mul_ediv_cancel_left _ hg]
theorem rat_den_pos (q : Rat) : (0 : Int) < q.den := by
  have := q.den_pos
  omega
theorem mratio_eq (a b : Int) (hb : b ≠ 0) : rD (mratio a b) = qD (Rat.divInt a b) := by
  have hg : (b.gcd a : Int) ∣ a := Int.gcd_dvd_right ..
  have hg2 : (b.gcd a : Int) ∣ b := Int.gcd_dvd_left ..
  have e : Nat.gcd a.natAbs b.natAbs = b.gcd a := by rw [Nat.gcd_comm]; rfl
  have h1 : (mratio a b).1 = (Rat.divInt a b).num := by
    unfold mratio sgnG
    rw [Rat.num_divInt, e]
    by_cases h : b < 0
    · rw [if_pos h, fdiv_exact (Int.neg_dvd.mpr hg), Int.sign_eq_neg_one_of_neg h, Int.ediv_neg, ← Int.neg_ediv_of_dvd hg, show -1 * a = -a by omega]
    · rw [if_neg h, fdiv_exact hg, Int.sign_eq_one_of_pos (by omega), Int.one_mul]
  have h2 : (mratio a b).2 = ((Rat.divInt a b).den : Int) := by
    unfold mratio sgnG
    rw [Rat.den_divInt, if_neg hb, e, Int.natCast_ediv]
    by_cases h : b < 0
    · rw [if_pos h, fdiv_exact (Int.neg_dvd.mpr hg2), Int.ediv_neg, ← Int.neg_ediv_of_dvd hg2, show (b.natAbs : Int) = -b by omega]
    · rw [if_neg h, fdiv_exact hg2, show (b.natAbs : Int) = b by omega]
  unfold rD qD
  rw [h1, h2]
/-! sizes -/
def Bd (B : Nat) (i : Int) : Prop := i.natAbs < 2 ^ B
theorem Bd.mono {B C : Nat} {i : Int} (h : Bd B i) (hc : B ≤ C) : Bd C i := Nat.lt_of_lt_of_le h (Nat.pow_le_pow_right (by decide) hc)
theorem Bd.mul {B C : Nat} {i j : Int} (h : Bd B i) (h' : Bd C j) : Bd (B + C) (i * j) := by
  unfold Bd
  rw [Int.natAbs_mul, Nat.pow_add]
  exact Nat.mul_lt_mul'' h h'
theorem Bd.add {B : Nat} {i j : Int} (h : Bd B i) (h' : Bd B j) : Bd (B + 1) (i + j) := by
  unfold Bd at *
  rw [Nat.pow_succ]
  have := Int.natAbs_add_le i j
  omega
theorem Bd.neg {B : Nat} {i : Int} (h : Bd B i) : Bd B (-i) := by
  unfold Bd at *
  rw [Int.natAbs_neg]; exact h
theorem Bd.sub {B : Nat} {i j : Int} (h : Bd B i) (h' : Bd B j) : Bd (B + 1) (i - j) := by
  rw [Int.sub_eq_add_neg]; exact h.add h'.neg
theorem Bd.log {B : Nat} {i : Int} (h : Bd B i) : i.natAbs.log2 ≤ B := by
  by_cases h0 : i.natAbs = 0
  · rw [h0]; simp
  · have := (Nat.log2_lt h0).mpr h
    omega
theorem Bd.mulOk {B C : Nat} {i j : Int} (h : Bd B i) (h' : Bd C j) (hc : B + C < 60000000) : MP.MulOk i j := by
  unfold MP.MulOk
  have := h.log
  have := h'.log
  omega
theorem sgn_ok {B : Nat} {a b : Int} (hb : b ≠ 0) (h : Bd B b) (hB : B < 9000) : DivOk (sgnG a b) := by
  have hg : Nat.gcd a.natAbs b.natAbs ≤ b.natAbs := Nat.gcd_le_right _ (by omega)
  have hp : 0 < Nat.gcd a.natAbs b.natAbs := Nat.gcd_pos_of_pos_right _ (by omega)
  have hb2 : Bd B (sgnG a b) := by
    unfold Bd sgnG at *
    split <;> omega
  refine ⟨?_, Nat.lt_of_le_of_lt hb2.log hB⟩
  unfold sgnG
  split <;> omega
/-- a ratio's size -/
def Sz (B : Nat) (q : Rat) : Prop := Bd B q.num ∧ Bd B q.den
theorem Sz.mono {B C : Nat} {q : Rat} (h : Sz B q) (hc : B ≤ C) : Sz C q := ⟨h.1.mono hc, h.2.mono hc⟩
theorem ev_ratio' {B : Nat} (a b : Int) (hb : b ≠ 0) (h : Bd B b) (hB : B < 9000) : callF pk.pg chkC fuel (d + 1) 0 [.int a, .int b] st = .ok (qD (Rat.divInt a b)) st := by
  rw [ev_ratio a b hb (sgn_ok hb h hB), mratio_eq a b hb]
theorem sz_divInt {B : Nat} {a b : Int} (hb : b ≠ 0) (ha : Bd B a) (h : Bd B b) : Sz B (Rat.divInt a b) := by
  have hpos : 0 < b.gcd a := Int.gcd_pos_of_ne_zero_left _ hb
  constructor
  · unfold Bd at *
    rw [Rat.num_divInt, Int.natAbs_ediv_of_dvd (Int.dvd_mul_of_dvd_right (Int.gcd_dvd_right ..)), Int.natAbs_mul]
    have e1 : b.sign.natAbs = 1 := by
      rw [Int.natAbs_sign]; simp [hb]
    rw [e1, Nat.one_mul]
    exact Nat.lt_of_le_of_lt (Nat.div_le_self _ _) ha
  · unfold Bd at *
    rw [Rat.den_divInt, if_neg hb]
    exact Nat.lt_of_le_of_lt (Nat.div_le_self _ _) h
theorem Sz.add {B C : Nat} {p q : Rat} (h : Sz B p) (h' : Sz C q) : Sz (B + C + 1) (p + q) := by
  have e : p + q = Rat.divInt (p.num * q.den + q.num * p.den) ((p.den * q.den : Nat) : Int) := by
    rw [Rat.add_def', Rat.divInt_ofNat]
  rw [e]
  have hd : ((p.den * q.den : Nat) : Int) ≠ 0 := by
    have := p.den_nz; have := q.den_nz
    intro z
    have z2 : p.den * q.den = 0 := by exact_mod_cast z
    rcases Nat.mul_eq_zero.mp z2 with h | h <;> contradiction
  refine sz_divInt hd ?_ ?_
  · have := h'.1.mul h.2
    rw [Nat.add_comm] at this
    exact (h.1.mul h'.2).add this
  · have z := (h.2.mul h'.2).mono (Nat.le_succ _)
    have e2 : ((p.den * q.den : Nat) : Int) = (p.den : Int) * q.den := by simp
    rw [e2]; exact z
theorem Sz.mul {B C : Nat} {p q : Rat} (h : Sz B p) (h' : Sz C q) : Sz (B + C) (p * q) := by
  have e : p * q = Rat.divInt (p.num * q.num) ((p.den * q.den : Nat) : Int) := by
    rw [Rat.mul_def', Rat.divInt_ofNat]
  rw [e]
  have hd : ((p.den * q.den : Nat) : Int) ≠ 0 := by
    have := p.den_nz; have := q.den_nz
    intro z
    have z2 : p.den * q.den = 0 := by exact_mod_cast z
    rcases Nat.mul_eq_zero.mp z2 with h | h <;> contradiction
  refine sz_divInt hd (h.1.mul h'.1) ?_
  have e2 : ((p.den * q.den : Nat) : Int) = (p.den : Int) * q.den := by simp
  rw [e2]; exact h.2.mul h'.2
theorem den_ne (p q : Rat) : (p.den : Int) * (q.den : Int) ≠ 0 := by
  have h1 := p.den_pos
  have h2 := q.den_pos
  have := Int.mul_pos (a := (p.den : Int)) (b := (q.den : Int)) (by omega) (by omega)
  omega
theorem ev_minus' {B C : Nat} (p q : Rat) (h : Sz B p) (h' : Sz C q) (hB : B + C < 9000) : callF pk.pg chkC fuel (d + 2) 1 [qD p, qD q] st = .ok (qD (p - q)) st := by
  have e : p - q = Rat.divInt (p.num * q.den - q.num * p.den) ((p.den : Int) * q.den) := by
    rw [Rat.sub_def', ← Rat.divInt_ofNat]; simp
  rw [call_eq 1 f1 rfl _ [qD p, qD q] rfl]
  unfold runF f1 b1
  have m1 := h.1.mulOk h'.2 (by omega)
  have m2 := h'.1.mulOk h.2 (by omega)
  have m3 := h.2.mulOk h'.2 (by omega)
  simp [m1, m2, m3, ev_ratio' _ _ (den_ne p q) (h.2.mul h'.2) hB, e]
/-! the law's -/
theorem eucO_mono : ∀ (n k : Nat) (a b g : Int), eucO n a b = some g → eucO (n + k) a b = some g
  | 0, _, _, _, _, h => by cases h
  | n + 1, k, a, b, g, h => by
    have e : n + 1 + k = (n + k) + 1 := by omega
    rw [e]
    unfold eucO at h ⊢
    by_cases hb : b = 0
    · rw [if_pos hb] at h ⊢; exact h
    · rw [if_neg hb] at h ⊢; exact eucO_mono n k _ _ _ h
theorem fmod_nat (a b : Nat) : Int.fmod (a : Int) (b : Int) = ((a % b : Nat) : Int) := by
  rw [Int.fmod_eq_emod_of_nonneg _ (by omega)]; simp
theorem eucO_gcd : ∀ (n : Nat) (a b : Nat), b < 2 ^ n → eucO (2 * n + 1) (a : Int) (b : Int) = some ((Nat.gcd a b : Nat) : Int)
  | 0, a, b, h => by
    have e : b = 0 := by simpa using h
    subst e
    simp [eucO]
  | n + 1, a, b, h => by
    have e : 2 * (n + 1) + 1 = (2 * n + 1) + 1 + 1 := by omega
    rw [e]
    unfold eucO
    by_cases hb : (b : Int) = 0
    · rw [if_pos hb]
      have hb' : b = 0 := by omega
      subst hb'
      simp
    · rw [if_neg hb, fmod_nat]
      have hb0 : 0 < b := by omega
      have hr : a % b < b := Nat.mod_lt _ hb0
      unfold eucO
      by_cases hr0 : ((a % b : Nat) : Int) = 0
      · rw [if_pos hr0]
        have : a % b = 0 := by omega
        rw [Nat.gcd_comm, Nat.gcd_rec, this]
        simp
      · rw [if_neg hr0, fmod_nat]
        have hr1 : 0 < a % b := by omega
        have hs : b % (a % b) < a % b := Nat.mod_lt _ hr1
        have hs2 : b % (a % b) ≤ b - a % b := by
          have := Nat.mod_eq_sub_mod (a := b) (b := a % b) (by omega)
          rw [this]
          exact Nat.mod_le _ _
        have h2 : b % (a % b) < 2 ^ n := by
          rw [Nat.pow_succ] at h
          omega
        rw [eucO_gcd n _ _ h2, Nat.gcd_comm (a % b), ← Nat.gcd_rec (a % b) b, ← Nat.gcd_rec b a, Nat.gcd_comm]
theorem ev_gcd' {B : Nat} (a b : Int) (h : Bd B b) (hB : B ≤ 4499) : callF pk.pg chkC fuel (d + 1) 7 [.int a, .int b] st = .ok (.int ((Nat.gcd a.natAbs b.natAbs : Nat) : Int)) st := by
  refine ev_gcd a b _ ?_
  have e : ∀ z : Int, (if z < 0 then -z else z) = (z.natAbs : Int) := fun z => by split <;> omega
  rw [e, e]
  have := eucO_mono (2 * B + 1) (9000 - (2 * B + 1)) _ _ _ (eucO_gcd B a.natAbs b.natAbs h)
  have e2 : 2 * B + 1 + (9000 - (2 * B + 1)) = 9000 := by omega
  rw [e2] at this
  exact this
theorem ev_lratio {B : Nat} (a b : Int) (hb : b ≠ 0) (h : Bd B b) (hB : B ≤ 4499) : callF pk.pg chkC fuel (d + 2) 8 [.int a, .int b] st = .ok (qD (Rat.divInt a b)) st := by
  rw [call_eq 8 f8 rfl _ [.int a, .int b] rfl]
  unfold runF f8 b8
  have hg := ev_gcd' (fuel := fuel) (d := d) (st := st) a b h hB
  have hp : 0 < Nat.gcd a.natAbs b.natAbs := Nat.gcd_pos_of_pos_right _ (by omega)
  have hd := sgn_ok (a := a) hb h (by omega)
  have e1 : (if ((Nat.gcd a.natAbs b.natAbs : Nat) : Int) > 1 then ((Nat.gcd a.natAbs b.natAbs : Nat) : Int) else 1) = ((Nat.gcd a.natAbs b.natAbs : Nat) : Int) := by
    split <;> omega
  have hm := mratio_eq a b hb
  unfold rD mratio at hm
  unfold sgnG at *
  by_cases hb0 : b < 0
  · rw [if_pos hb0] at *
    simp only [gt_iff_lt] at e1
    simp [hg, e1, hb0, hd, hm]
  · rw [if_neg hb0] at *
    simp only [gt_iff_lt] at e1
    simp [hg, e1, hb0, hd, hm]
theorem ev_ladd {B C : Nat} (p q : Rat) (h : Sz B p) (h' : Sz C q) (hB : B + C ≤ 4499) : callF pk.pg chkC fuel (d + 3) 9 [qD p, qD q] st = .ok (qD (p + q)) st := by
  have e : p + q = Rat.divInt (p.num * q.den + q.num * p.den) ((p.den : Int) * q.den) := by
    rw [Rat.add_def', ← Rat.divInt_ofNat]; simp
  rw [call_eq 9 f9 rfl _ [qD p, qD q] rfl]
  unfold runF f9 b9
  have m1 := h.1.mulOk h'.2 (by omega)
  have m2 := h'.1.mulOk h.2 (by omega)
  have m3 := h.2.mulOk h'.2 (by omega)
  simp [m1, m2, m3, ev_lratio _ _ (den_ne p q) (h.2.mul h'.2) hB, e]
theorem ev_lmul {B C : Nat} (p q : Rat) (h : Sz B p) (h' : Sz C q) (hB : B + C ≤ 4499) : callF pk.pg chkC fuel (d + 3) 10 [qD p, qD q] st = .ok (qD (p * q)) st := by
  have e : p * q = Rat.divInt (p.num * q.num) ((p.den : Int) * q.den) := by
    rw [Rat.mul_def', ← Rat.divInt_ofNat]; simp
  rw [call_eq 10 f10 rfl _ [qD p, qD q] rfl]
  unfold runF f10 b10
  have m1 := h.1.mulOk h'.1 (by omega)
  have m3 := h.2.mulOk h'.2 (by omega)
  simp [m1, m3, ev_lratio _ _ (den_ne p q) (h.2.mul h'.2) hB, e]
theorem ev_lbelow {B C : Nat} (p q : Rat) (h : Sz B p) (h' : Sz C q) (hB : B + C ≤ 4499) : callF pk.pg chkC fuel (d + 1) 11 [qD p, qD q] st = .ok (.bl (decide (p < q))) st := by
  rw [call_eq 11 f11 rfl _ [qD p, qD q] rfl]
  unfold runF f11 b11
  have m1 := h.1.mulOk h'.2 (by omega)
  have m2 := h'.1.mulOk h.2 (by omega)
  simp [m1, m2, Rat.lt_iff]
end W86
set_option linter.all false
set_option maxRecDepth 100000
set_option maxHeartbeats 1000000
/-! W3: sequences of ratios. -/
namespace W86
open PySem MP I86
variable {fuel d : Nat} {st : St}
theorem compL_map {body : D → St → Res (Option D)} {f : D → Option D} : ∀ (xs acc : List D), (∀ x ∈ xs, body x st = .ok (f x) st) → compL body xs acc st = .ok (acc ++ xs.filterMap f) st
  | [], acc, _ => by unfold compL; simp
  | x :: xs, acc, h => by
    unfold compL
    rw [h x List.mem_cons_self]
    cases q : f x with
    | none =>
      dsimp only
      rw [compL_map xs acc fun y hy => h y (List.mem_cons_of_mem _ hy), List.filterMap_cons, q]
    | some y =>
      dsimp only
      rw [compL_map xs _ fun y hy => h y (List.mem_cons_of_mem _ hy), List.filterMap_cons, q]
      simp
theorem compL_all {body : D → St → Res (Option D)} {f : D → D} (xs : List D) (h : ∀ x ∈ xs, body x st = .ok (some (f x)) st) : compL body xs [] st = .ok (xs.map f) st := by
  rw [compL_map (f := fun x => some (f x)) xs [] h, List.nil_append, List.filterMap_eq_map']
theorem compR_L {body : D → St → Res (Option D)} {n : Nat} {xs : List D} (hst : st[n]? = some (.lst xs)) (hb : ∀ x ∈ xs, ∃ o, body x st = .ok o st) : ∀ (k i : Nat) (acc : List D), 0 < k → xs.length < k + i → compR body n k i acc st = compL body (xs.drop i) acc st
  | 0, i, acc, h0, hk => absurd h0 (by omega)
  | k + 1, i, acc, h0, hk => by
    unfold compR
    rw [hst]
    dsimp only
    cases q : xs[i]? with
    | none =>
      rw [List.drop_eq_nil_of_le (List.getElem?_eq_none_iff.mp q)]
      unfold compL
      rfl
    | some x =>
      have hlt := (List.getElem?_eq_some_iff.mp q).1
      have hx := (List.getElem?_eq_some_iff.mp q).2
      rw [List.drop_eq_getElem_cons hlt, hx]
      obtain ⟨o, ho⟩ := hb x (List.mem_of_getElem? q)
      unfold compL
      dsimp only
      rw [ho]
      cases o with
      | none => exact compR_L hst hb k (i + 1) acc (by omega) (by omega)
      | some y => exact compR_L hst hb k (i + 1) _ (by omega) (by omega)
@[simp] theorem wipe_nil (env : En) : wipeE env [] = env := rfl
@[simp] theorem wipe_cons (env : En) (v : Nat) (vs : List Nat) : wipeE env (v :: vs) = (wipeE env vs).set v none := rfl
@[simp] theorem own_nil : ownS [] = [] := rfl
@[simp] theorem own_cons (p : Str × Nat) (l : List (Str × Nat)) : ownS (p :: l) = p.2 :: ownS l := rfl
theorem turn_name {c : Cfg} {own : List Nat} {elt : E} {p : Pos} {i : Nat} {env : En} {x : D} : turnB c own elt (.name p i) .nil env x st = (ev c elt ((wipeE env own).set i (some x)) st).bind fun y s => .ok (some y) s := by
  unfold turnB
  simp [bindT]
theorem turn_tup {c : Cfg} {own : List Nat} {elt : E} {p : Pos} {k : Nat} {ns : List (Pos × Nat)} {env : En} {xs : List D} (h : xs.length = ns.length) : turnB c own elt (.tup p k ns) .nil env (.tup xs) st = (ev c elt ((ns.zip xs).foldl (fun e (q : (Pos × Nat) × D) => e.set q.1.2 (some q.2)) (wipeE env own)) st).bind fun y s => .ok (some y) s := by
  unfold turnB bindT
  simp [h]
/-- a list or a tuple of ratios -/
def IsQ (x : D) (qs : List Rat) : Prop := x = .lst (qs.map qD) ∨ x = .tup (qs.map qD)
theorem atI_nat {α : Type} (xs : List α) (k : Nat) : L2.atI xs (k : Int) = xs[k]? := by
  unfold L2.atI L2.ixN
  by_cases h : k < xs.length
  · have h1 : (0 : Int) ≤ k := by omega
    have h2 : (k : Int) < xs.length := by omega
    simp [h1, h2]
  · have h1 : (0 : Int) ≤ k := by omega
    have h2 : ¬ ((k : Int) < xs.length) := by omega
    simp [h1, h2]
    omega
theorem IsQ.idx {x : D} {qs : List Rat} (h : IsQ x qs) (k : Nat) (hk : k < qs.length) : idxD st x (.int k) = some (qD qs[k]) := by
  rcases h with rfl | rfl
  · show L2.atI (qs.map qD) (k : Int) = _
    rw [atI_nat]; simp [hk]
  · show L2.atI (qs.map qD) (k : Int) = _
    rw [atI_nat]; simp [hk]
theorem IsQ.len {x : D} {qs : List Rat} {m : Bool} (h : IsQ x qs) : biD .len m [x] st = .ok (.int qs.length) st := by
  rcases h with rfl | rfl
  · rw [bi_len_lst]; simp
  · rw [bi_len_tup]; simp
theorem IsQ.get {x : D} {qs : List Rat} (h : IsQ x qs) (env : En) : getV (some x :: env) 0 = some x := by
  rcases h with rfl | rfl <;> rfl
/-- sum of x[k] * y[k] -/
def dotR : List Rat → List Rat → Rat
  | x :: xs, y :: ys => x * y + dotR xs ys
  | _, _ => 0
/-- the n-th statement's target's place -/
def tgP : Ss → Nat → Pos
  | .cons (.for_ _ (.name p _) _ _) _, 0 => p
  | .cons (.for_ _ (.tup p _ _) _ _) _, 0 => p
  | .cons _ ss, n + 1 => tgP ss n
  | _, _ => ⟨0, 0, 0, 0⟩
def dotB : Ss := match b14 with
  | .cons _ (.cons (.for_ _ _ _ b) _) => b
  | _ => .nil
theorem dotB_eq : dotB = match b14 with
  | .cons _ (.cons (.for_ _ _ _ b) _) => b
  | _ => .nil := rfl
theorem dot_loop {A : Nat} {x y : D} {xs ys : List Rat} (hx : IsQ x xs) (hy : IsQ y ys) (hl : xs.length ≤ ys.length) (hA : ∀ q ∈ xs, ∀ r ∈ ys, Sz A (q * r) ∧ ∃ B C, Sz B q ∧ Sz C r ∧ B + C ≤ A) (p : Pos) :
    ∀ (m i : Nat) (t : Rat) (k0 : Option D), i + m = xs.length → Sz (i * (A + 1) + 1) t → xs.length * (A + 1) + A + 1 ≤ 4499 → ∃ k1, forL (stepB (cfgOf pk.pg fuel (callF pk.pg chkC fuel (d + 3))) (.name p 3) dotB) (rangeL i xs.length) [some x, some y, some (qD t), k0] st = .next [some x, some y, some (qD (t + dotR (xs.drop i) (ys.drop i))), k1] st
  | 0, i, t, k0, hi, ht, hb => by
    rw [range_nil _ _ (by omega)]
    refine ⟨k0, ?_⟩
    unfold forL
    rw [List.drop_eq_nil_of_le (by omega)]
    have e : dotR [] (ys.drop i) = 0 := by cases ys.drop i <;> rfl
    rw [e, Rat.add_zero]
  | m + 1, i, t, k0, hi, ht, hb => by
    rw [range_cons _ _ (by omega)]
    unfold forL
    have h1 : i < xs.length := by omega
    have h2 : i < ys.length := by omega
    obtain ⟨hs, B, C, hB, hC, hBC⟩ := hA _ (List.getElem_mem h1) _ (List.getElem_mem h2)
    have hmul : xs.length * (A + 1) ≥ (i + 1) * (A + 1) := Nat.mul_le_mul_right _ (by omega)
    have e1 : (i + 1) * (A + 1) = i * (A + 1) + (A + 1) := by rw [Nat.add_mul, Nat.one_mul]
    have m1 := ev_lmul (fuel := fuel) (d := d) (st := st) _ _ hB hC (by omega)
    have a1 := ev_ladd (fuel := fuel) (d := d) (st := st) _ _ ht hs (by omega)
    have hsum := (ht.add hs).mono (show i * (A + 1) + 1 + A + 1 ≤ (i + 1) * (A + 1) + 1 by omega)
    obtain ⟨k1, ih⟩ := dot_loop hx hy hl hA p m (i + 1) (t + xs[i] * ys[i]) (some (.int i)) (by omega) hsum hb
    refine ⟨k1, ?_⟩
    have hcast : ((i + 1 : Nat) : Int) = (i : Int) + 1 := by omega
    rw [hcast] at ih
    rw [List.drop_eq_getElem_cons h1, List.drop_eq_getElem_cons h2]
    have e2 : t + dotR (xs[i] :: xs.drop (i + 1)) (ys[i] :: ys.drop (i + 1)) = t + xs[i] * ys[i] + dotR (xs.drop (i + 1)) (ys.drop (i + 1)) := by
      show t + (_ + _) = _
      rw [Rat.add_assoc]
    rw [e2]
    have step : stepB (cfgOf pk.pg fuel (callF pk.pg chkC fuel (d + 3))) (.name p 3) dotB (.int i) [some x, some y, some (qD t), k0] st = .next [some x, some y, some (qD (t + xs[i] * ys[i])), some (.int i)] st := by
      simp [dotB, b14, hx.get, hy.get, hx.idx i h1, hy.idx i h2, m1, a1]
    rw [step]
    exact ih
theorem ev_dot {A : Nat} {x y : D} {xs ys : List Rat} (hx : IsQ x xs) (hy : IsQ y ys) (hl : xs.length ≤ ys.length) (hA : ∀ q ∈ xs, ∀ r ∈ ys, Sz A (q * r) ∧ ∃ B C, Sz B q ∧ Sz C r ∧ B + C ≤ A) (hb : xs.length * (A + 1) + A + 1 ≤ 4499) :
    callF pk.pg chkC fuel (d + 4) 14 [x, y] st = .ok (qD (dotR xs ys)) st := by
  rw [call_eq 14 f14 rfl _ [x, y] rfl]
  unfold runF f14 b14
  have z : Sz (0 * (A + 1) + 1) 0 := ⟨by unfold Bd; simp, by unfold Bd; simp⟩
  obtain ⟨k1, h⟩ := dot_loop (fuel := fuel) (d := d) (st := st) hx hy hl hA (tgP b14 1) xs.length 0 0 none (by omega) z hb
  simp [dotB, b14, tgP] at h
  have hs : small xs.length := by
    unfold small
    have : xs.length ≤ 4499 := by
      have : xs.length * 1 ≤ xs.length * (A + 1) := Nat.mul_le_mul_left _ (by omega)
      omega
    omega
  have e0 : D.tup [.int 0, .int 1] = qD 0 := rfl
  simp [hx.get, hx.len, hs, e0, h, Rat.zero_add]
/-! what is a ratio -/
@[simp] theorem isT_int_int (i : Int) : isT st (.int i) .int = some true := id rfl
@[simp] theorem isT_int_bool (i : Int) : isT st (.int i) .bool = some false := id rfl
@[simp] theorem isT_tup_tup (xs : List D) : isT st (.tup xs) .tuple = some true := id rfl
@[simp] theorem isT_str_str (x : Str) : isT st (.str x) .str = some true := id rfl
theorem ev_isWhole (i : Int) : callF pk.pg chkC fuel (d + 1) 12 [.int i] st = .ok (.bl true) st := by
  rw [call_eq 12 f12 rfl _ [.int i] rfl]
  unfold runF f12 b12
  simp
theorem ev_isRatio {B : Nat} (q : Rat) (h : Sz B q) (hB : B ≤ 4499) : callF pk.pg chkC fuel (d + 2) 13 [qD q] st = .ok (.bl true) st := by
  rw [call_eq 13 f13 rfl _ [qD q] rfl]
  unfold runF f13 b13
  have hg := ev_gcd' (fuel := fuel) (d := d) (st := st) q.num q.den h.2 hB
  have e1 : Nat.gcd q.num.natAbs (q.den : Int).natAbs = 1 := by
    have := q.reduced
    simpa using this
  have e2 : (1 : Int) ≤ (q.den : Int) := by
    have := q.den_pos
    omega
  have e3 : q.den ≠ 0 := q.den_nz
  simp only [e1] at hg
  unfold qD
  simp [ev_isWhole, hg, e2]
/-! the forms of the answer -/
def ratiosB : Ss := match b15 with
  | .cons _ (.cons (.for_ _ _ _ b) _) => b
  | _ => .nil
theorem ratios_loop {B : Nat} (hB : B ≤ 4499) (p : Pos) (v s0 : D) (hv : ∀ env, getV (some v :: env) 0 = some v) : ∀ (qs : List Rat) (k0 : Option D), (∀ q ∈ qs, Sz B q) → ∃ k1, forL (stepB (cfgOf pk.pg fuel (callF pk.pg chkC fuel (d + 2))) (.name p 2) ratiosB) (qs.map qD) [some v, some s0, k0] st = .next [some v, some s0, k1] st
  | [], k0, _ => ⟨k0, by unfold forL; rfl⟩
  | q :: qs, k0, h => by
    obtain ⟨k1, ih⟩ := ratios_loop hB p v s0 hv qs (some (qD q)) fun r hr => h r (List.mem_cons_of_mem _ hr)
    refine ⟨k1, ?_⟩
    rw [List.map_cons]
    unfold forL
    have step : stepB (cfgOf pk.pg fuel (callF pk.pg chkC fuel (d + 2))) (.name p 2) ratiosB (qD q) [some v, some s0, k0] st = .next [some v, some s0, some (qD q)] st := by
      simp [ratiosB, b15, ev_isRatio q (h q List.mem_cons_self) hB]
    rw [step]
    exact ih
theorem ev_ratios {B : Nat} (hB : B ≤ 4499) (qs : List Rat) (h : ∀ q ∈ qs, Sz B q) : callF pk.pg chkC fuel (d + 3) 15 [.tup (qs.map qD), .int qs.length] st = .ok (.bl true) st := by
  rw [call_eq 15 f15 rfl _ [.tup (qs.map qD), .int qs.length] rfl]
  unfold runF f15 b15
  obtain ⟨k1, hl⟩ := ratios_loop (fuel := fuel) (d := d) (st := st) hB (tgP b15 1) (.tup (qs.map qD)) (.int qs.length) (fun _ => rfl) qs none h
  simp [ratiosB, b15, tgP] at hl
  have e : wkD st (.tup (qs.map qD)) = some (.items (qs.map qD)) := rfl
  simp [e, hl]
end W86
set_option linter.all false
set_option maxRecDepth 100000
set_option maxHeartbeats 1000000
/-! W4: sums of prices times rows. -/
namespace W86
open PySem MP I86
variable {fuel d : Nat} {st : St}
abbrev Row := List Rat × Rat
def rowD (r : Row) : D := .tup [.lst (r.1.map qD), qD r.2]
def rowsD (rs : List Row) : D := .lst (rs.map rowD)
@[simp] theorem nr_rowD (r : Row) : nr (rowD r) = true := by
  unfold rowD
  simp [nrs_map qD nr_qD]
@[simp] theorem nr_rowsD (rs : List Row) : nr (rowsD rs) = true := by
  unfold rowsD
  simp [nrs_map rowD nr_rowD]
@[simp] theorem getV_rowsD (rs : List Row) (env : En) : getV (some (rowsD rs) :: env) 0 = some (rowsD rs) := id rfl
@[simp] theorem getV_rowD (r : Row) (env : En) : getV (some (rowD r) :: env) 0 = some (rowD r) := id rfl
theorem idx_lst (xs : List D) (k : Nat) (hk : k < xs.length) : idxD st (.lst xs) (.int k) = some xs[k] := by
  show L2.atI xs (k : Int) = _
  rw [atI_nat]; simp [hk]
theorem idx_rows (rs : List Row) (k : Nat) (hk : k < rs.length) : idxD st (rowsD rs) (.int k) = some (rowD rs[k]) := by
  unfold rowsD
  rw [idx_lst _ k (by simpa using hk)]
  simp
@[simp] theorem idx_row0 (r : Row) : idxD st (rowD r) (.int 0) = some (.lst (r.1.map qD)) := by simp [rowD]
@[simp] theorem idx_row1 (r : Row) : idxD st (rowD r) (.int 1) = some (qD r.2) := by simp [rowD]
@[simp] theorem len_rows (rs : List Row) (m : Bool) : biD .len m [rowsD rs] st = .ok (.int rs.length) st := by simp [rowsD]
/-- a list of the store, at its end -/
@[simp] theorem at_end (o : SO) : (st ++ [o])[st.length]? = some o := by simp
@[simp] theorem idx_end (xs : List D) (k : Int) : idxD (st ++ [.lst xs]) (.ref st.length) (.int k) = L2.atI xs k := by
  unfold idxD
  simp
@[simp] theorem set_end (xs : List D) (k : Int) (v : D) : setD (.ref st.length) (.int k) v (st ++ [.lst xs]) = (L2.ixN xs.length k).map fun j => st ++ [.lst (xs.set j v)] := by
  unfold setD
  simp
theorem ixN_nat (n k : Nat) (h : k < n) : L2.ixN n (k : Int) = some k := by
  unfold L2.ixN
  have h1 : (0 : Int) ≤ k := by omega
  have h2 : (k : Int) < n := by omega
  simp [h1, h2]
/-- rows, given frozen or as a list of the store -/
def IsR (st : St) (x : D) (rs : List Row) : Prop := x = rowsD rs ∨ ∃ k, x = .ref k ∧ st[k]? = some (.lst (rs.map rowD))
theorem IsR.get {x : D} {rs : List Row} (h : IsR st x rs) (env : En) : getV (some x :: env) 0 = some x := by
  rcases h with rfl | ⟨k, rfl, _⟩ <;> rfl
theorem IsR.app {x : D} {rs : List Row} (h : IsR st x rs) (ys : St) : IsR (st ++ ys) x rs := by
  rcases h with rfl | ⟨k, rfl, h⟩
  · exact .inl rfl
  · refine .inr ⟨k, rfl, ?_⟩
    have hk := (List.getElem?_eq_some_iff.mp h).1
    rw [List.getElem?_append_left hk]; exact h
theorem IsR.idx {x : D} {rs : List Row} (h : IsR st x rs) (k : Nat) (hk : k < rs.length) : idxD st x (.int k) = some (rowD rs[k]) := by
  rcases h with rfl | ⟨j, rfl, h⟩
  · exact idx_rows rs k hk
  · unfold idxD
    dsimp only
    rw [h]
    show L2.atI _ _ = _
    rw [atI_nat]; simp [hk]
theorem IsR.len {x : D} {rs : List Row} {m : Bool} (h : IsR st x rs) : biD .len m [x] st = .ok (.int rs.length) st := by
  rcases h with rfl | ⟨j, rfl, h⟩
  · exact len_rows rs m
  · unfold biD seqOf lstOf
    dsimp only
    rw [h]
    simp
def sumsB : Ss := match b16 with
  | .cons _ (.cons (.for_ _ _ _ b) _) => b
  | _ => .nil
def sumsB2 : Ss := match sumsB with
  | .cons (.for_ _ _ _ b) _ => b
  | _ => .nil
def addRow (p : Rat) : List Rat → List Rat → List Rat
  | a :: as, x :: xs => (a + p * x) :: addRow p as xs
  | as, _ => as
theorem addRow_length (p : Rat) : ∀ (as xs : List Rat), (addRow p as xs).length = as.length
  | [], _ => by unfold addRow; rfl
  | a :: as, [] => by unfold addRow; rfl
  | a :: as, x :: xs => by unfold addRow; simp [addRow_length p as xs]
theorem sums_inner {A S : Nat} {rs : List Row} {xr : D} (hxr : IsR st xr rs) {y : D} {ys : List Rat} {i : Nat} (hi : i < rs.length) (hy : IsQ y ys) (hiy : i < ys.length) (p : Pos) (many : D) :
    ∀ (as xs pre lpre : List Rat) (j0 k0 i0 : Option D), as.length = xs.length → pre.length = lpre.length → rs[i].1 = lpre ++ xs → (∀ a ∈ as, Sz S a) → (∀ x ∈ xs, Sz A (ys[i] * x) ∧ ∃ B C, Sz B ys[i] ∧ Sz C x ∧ B + C ≤ A) → S + A + 1 ≤ 4499 →
      ∃ j1, forL (stepB (cfgOf pk.pg fuel (callF pk.pg chkC fuel (d + 3))) (.name p 5) sumsB2) (rangeL pre.length (pre.length + as.length : Nat)) [some xr, some y, some many, some (.ref st.length), some (.int i), j0, k0] (st ++ [.lst ((pre ++ as).map qD)]) =
        .next [some xr, some y, some many, some (.ref st.length), some (.int i), j1, k0] (st ++ [.lst ((pre ++ addRow ys[i] as xs).map qD)])
  | [], xs, pre, lpre, j0, k0, i0, hl, hp, hr, hS, hA, hb => by
    rw [range_nil _ _ (by simp)]
    refine ⟨j0, ?_⟩
    unfold forL
    unfold addRow
    rfl
  | a :: as, [], pre, lpre, j0, k0, i0, hl, hp, hr, hS, hA, hb => by cases hl
  | a :: as, x :: xs, pre, lpre, j0, k0, i0, hl, hp, hr, hS, hA, hb => by
    rw [range_cons _ _ (by simp; omega)]
    unfold forL
    obtain ⟨hs, B, C, hB, hC, hBC⟩ := hA x List.mem_cons_self
    have ha := hS a List.mem_cons_self
    have m1 := fun s => ev_lmul (fuel := fuel) (d := d) (st := s) _ _ hB hC (by omega)
    have a1 := fun s => ev_ladd (fuel := fuel) (d := d) (st := s) _ _ ha hs (by omega)
    obtain ⟨j1, ih⟩ := sums_inner hxr hi hy hiy p many as xs (pre ++ [a + ys[i] * x]) (lpre ++ [x]) (some (.int pre.length)) k0 i0 (by simpa using hl) (by simp [hp]) (by rw [hr]; simp) (fun b hb => hS b (List.mem_cons_of_mem _ hb)) (fun b hb => hA b (List.mem_cons_of_mem _ hb)) hb
    refine ⟨j1, ?_⟩
    have g1 : L2.atI ((pre ++ a :: as).map qD) (pre.length : Int) = some (qD a) := by
      rw [atI_nat]; simp
    have g2 : idxD (st ++ [.lst ((pre ++ a :: as).map qD)]) (.lst (rs[i].1.map qD)) (.int (pre.length : Int)) = some (qD x) := by
      show L2.atI _ _ = _
      rw [atI_nat, hr, hp]; simp
    have g3 : L2.ixN ((pre ++ a :: as).map qD).length (pre.length : Int) = some pre.length := ixN_nat _ _ (by simp)
    have g4 : ((pre ++ a :: as).map qD).set pre.length (qD (a + ys[i] * x)) = (pre ++ (a + ys[i] * x) :: as).map qD := by
      simp
    have step : stepB (cfgOf pk.pg fuel (callF pk.pg chkC fuel (d + 3))) (.name p 5) sumsB2 (.int pre.length) [some xr, some y, some many, some (.ref st.length), some (.int i), j0, k0] (st ++ [.lst ((pre ++ a :: as).map qD)]) =
        .next [some xr, some y, some many, some (.ref st.length), some (.int i), some (.int pre.length), k0] (st ++ [.lst ((pre ++ (a + ys[i] * x) :: as).map qD)]) := by
      simp only [sumsB2, sumsB, b16, stepB_name]
      simp only [List.set_cons_succ, List.set_cons_zero, exs_cons, ex_sub, ev_call, evs_cons, ev_idx, ev_var, getV_succ, getV_ref, getV_int, hxr.get, ofO_some', ok_bind, ok_bindS, idx_end, g1, hy.get, hy.idx i hiy, (hxr.app _).idx i hi, idx_row0, ev_cst, cst_int, g2, evs_nil, cfg_call, m1, a1, setK, set_end, g3, Option.map_some, g4, next_bind, exs_nil]
    rw [step]
    have e1 : ((pre ++ [a + ys[i] * x]).length : Int) = (pre.length : Int) + 1 := by simp
    have e2 : ((pre.length + (a :: as).length : Nat) : Int) = (((pre ++ [a + ys[i] * x]).length + as.length : Nat) : Int) := by simp; omega
    have e3 : pre ++ (a + ys[i] * x) :: as = (pre ++ [a + ys[i] * x]) ++ as := by simp
    have e4 : pre ++ addRow ys[i] (a :: as) (x :: xs) = (pre ++ [a + ys[i] * x]) ++ addRow ys[i] as xs := by
      conv => lhs; unfold addRow
      simp
    rw [e2, ← e1, e3, e4]
    exact ih
def sumsFrom : List Rat → List Row → List Rat → List Rat
  | acc, r :: rs, y :: ys => sumsFrom (addRow y acc r.1) rs ys
  | acc, _, _ => acc
theorem addRow_sz {A S : Nat} {p : Rat} : ∀ (as xs : List Rat), (∀ a ∈ as, Sz S a) → (∀ x ∈ xs, Sz A (p * x)) → ∀ b ∈ addRow p as xs, Sz (S + A + 1) b
  | [], xs, h, h', b, hb => by unfold addRow at hb; cases hb
  | a :: as, [], h, h', b, hb => by
    unfold addRow at hb
    exact (h b hb).mono (by omega)
  | a :: as, x :: xs, h, h', b, hb => by
    unfold addRow at hb
    rcases List.mem_cons.mp hb with rfl | hb
    · exact (h a List.mem_cons_self).add (h' x List.mem_cons_self)
    · exact addRow_sz as xs (fun c hc => h c (List.mem_cons_of_mem _ hc)) (fun c hc => h' c (List.mem_cons_of_mem _ hc)) b hb
/-- what the sums ask of the sizes -/
def SzD (A : Nat) (rs : List Row) (ys : List Rat) : Prop := ∀ r ∈ rs, ∀ y ∈ ys, ∀ x ∈ r.1, Sz A (y * x) ∧ ∃ B C, Sz B y ∧ Sz C x ∧ B + C ≤ A
theorem sums_outer {A n : Nat} {rs : List Row} {xr : D} (hxr : IsR st xr rs) {y : D} {ys : List Rat} (hy : IsQ y ys) (hl : rs.length ≤ ys.length) (hn : small n) (hw : ∀ r ∈ rs, r.1.length = n) (hA : SzD A rs ys) (hb : rs.length * (A + 1) + A + 1 ≤ 4499) :
    ∀ (m i : Nat) (acc : List Rat) (i0 j0 k0 : Option D), i + m = rs.length → acc.length = n → (∀ a ∈ acc, Sz (i * (A + 1) + 1) a) →
      ∃ i1 j1, forL (stepB (cfgOf pk.pg fuel (callF pk.pg chkC fuel (d + 3))) (.name (tgP b16 1) 4) sumsB) (rangeL i rs.length) [some xr, some y, some (.int n), some (.ref st.length), i0, j0, k0] (st ++ [.lst (acc.map qD)]) =
        .next [some xr, some y, some (.int n), some (.ref st.length), i1, j1, k0] (st ++ [.lst ((sumsFrom acc (rs.drop i) (ys.drop i)).map qD)])
  | 0, i, acc, i0, j0, k0, hi, ha, hS => by
    rw [range_nil _ _ (by omega)]
    refine ⟨i0, j0, ?_⟩
    unfold forL
    rw [List.drop_eq_nil_of_le (by omega)]
    have e : sumsFrom acc [] (ys.drop i) = acc := by cases ys.drop i <;> rfl
    rw [e]
  | m + 1, i, acc, i0, j0, k0, hi, ha, hS => by
    have h1 : i < rs.length := by omega
    have h2 : i < ys.length := by omega
    have hrow := hw _ (List.getElem_mem h1)
    have hmul : rs.length * (A + 1) ≥ (i + 1) * (A + 1) := Nat.mul_le_mul_right _ (by omega)
    have e1 : (i + 1) * (A + 1) = i * (A + 1) + (A + 1) := by rw [Nat.add_mul, Nat.one_mul]
    have hA' : ∀ x ∈ rs[i].1, Sz A (ys[i] * x) ∧ ∃ B C, Sz B ys[i] ∧ Sz C x ∧ B + C ≤ A := hA _ (List.getElem_mem h1) _ (List.getElem_mem h2)
    obtain ⟨j1, hin⟩ := sums_inner (fuel := fuel) (d := d) (st := st) hxr h1 hy h2 (tgP sumsB 0) (.int n) acc rs[i].1 [] [] j0 k0 none (by rw [ha, hrow]) rfl rfl hS hA' (by omega)
    simp only [List.length_nil, List.nil_append, Nat.zero_add, ha] at hin
    obtain ⟨i1, j2, ih⟩ := sums_outer hxr hy hl hn hw hA hb m (i + 1) (addRow ys[i] acc rs[i].1) (some (.int i)) j1 k0 (by omega) (by rw [addRow_length]; exact ha) (fun b hb => (addRow_sz acc rs[i].1 hS (fun x hx => (hA' x hx).1) b hb).mono (by omega))
    refine ⟨i1, j2, ?_⟩
    rw [range_cons _ _ (by omega)]
    unfold forL
    have step : stepB (cfgOf pk.pg fuel (callF pk.pg chkC fuel (d + 3))) (.name (tgP b16 1) 4) sumsB (.int i) [some xr, some y, some (.int n), some (.ref st.length), i0, j0, k0] (st ++ [.lst (acc.map qD)]) =
        .next [some xr, some y, some (.int n), some (.ref st.length), some (.int i), j1, k0] (st ++ [.lst ((addRow ys[i] acc rs[i].1).map qD)]) := by
      simp only [sumsB2, sumsB, b16, tgP, show ((0 : Nat) : Int) = 0 from rfl] at hin
      simp only [sumsB, b16, stepB_name]
      simp only [List.set_cons_succ, List.set_cons_zero, exs_cons, ex_for, evI_r1, ev_var, getV_succ, getV_int, ofO_some', ok_bind, ok_bindS, r1K_int, if_pos hn, loopF_items]
      rw [hin]
      simp only [next_bind, exs_nil]
    rw [step, List.drop_eq_getElem_cons h1, List.drop_eq_getElem_cons h2]
    have e2 : ((i + 1 : Nat) : Int) = (i : Int) + 1 := by omega
    rw [e2] at ih
    have e3 : sumsFrom acc (rs[i] :: rs.drop (i + 1)) (ys[i] :: ys.drop (i + 1)) = sumsFrom (addRow ys[i] acc rs[i].1) (rs.drop (i + 1)) (ys.drop (i + 1)) := rfl
    rw [e3]
    exact ih
theorem range_len (n : Nat) : (rangeL 0 n).length = n := by simp [rangeL]
theorem map_const {x : D} {n : Nat} : (rangeL 0 n).map (fun _ => x) = List.replicate n x := by
  rw [List.map_const', range_len]
theorem sz_zero (B : Nat) : Sz (B + 1) 0 := ⟨by unfold Bd; exact Nat.two_pow_pos _, by
  unfold Bd
  have : 1 < 2 ^ (B + 1) := Nat.one_lt_two_pow (by omega)
  simpa using this⟩
theorem ev_sumsR {A n : Nat} {rs : List Row} {xr : D} (hxr : IsR st xr rs) {y : D} {ys : List Rat} (hy : IsQ y ys) (hl : rs.length ≤ ys.length) (hn : small n) (hm : small rs.length) (hw : ∀ r ∈ rs, r.1.length = n) (hA : SzD A rs ys) (hb : rs.length * (A + 1) + A + 1 ≤ 4499) :
    callF pk.pg chkC fuel (d + 4) 16 [xr, y, .int n] st = .ok (.ref st.length) (st ++ [.lst ((sumsFrom (List.replicate n 0) rs ys).map qD)]) := by
  rw [call_eq 16 f16 rfl _ [xr, y, .int n] rfl]
  unfold runF f16 b16
  have hc : ∀ (c : Cfg) (env : En) (p1 p2 p3 p4 : Pos), compL (turnB c [6] (.tup p1 0 (.cons (.cst p2 0 (.int 0)) (.cons (.cst p3 0 (.int 1)) .nil))) (.name p4 6) .nil env) (rangeL 0 n) [] st = .ok (List.replicate n (qD 0)) st := by
    intro c env p1 p2 p3 p4
    rw [compL_all (f := fun _ => qD 0) _ (fun x hx => ?_), map_const]
    rw [turn_name]
    simp
    rfl
  obtain ⟨i1, j1, h⟩ := sums_outer (fuel := fuel) (d := d) (st := st) hxr hy hl hn hw hA hb rs.length 0 (List.replicate n 0) none none none (by omega) (by simp) (by
    intro a ha
    rw [List.eq_of_mem_replicate ha]
    rw [Nat.zero_mul]
    exact sz_zero _)
  simp only [sumsB, b16, tgP, List.map_replicate, List.drop_zero] at h
  have h0 : ((0 : Nat) : Int) = 0 := rfl
  rw [h0] at h
  have hg := hxr.get
  have hln := fun (o : SO) (m : Bool) => (hxr.app [o]).len (m := m)
  simp [hc, hn, hm, h, hg, hln]
theorem ev_sums {A n : Nat} {rs : List Row} {y : D} {ys : List Rat} (hy : IsQ y ys) (hl : rs.length ≤ ys.length) (hn : small n) (hm : small rs.length) (hw : ∀ r ∈ rs, r.1.length = n) (hA : SzD A rs ys) (hb : rs.length * (A + 1) + A + 1 ≤ 4499) :
    callF pk.pg chkC fuel (d + 4) 16 [rowsD rs, y, .int n] st = .ok (.ref st.length) (st ++ [.lst ((sumsFrom (List.replicate n 0) rs ys).map qD)]) := ev_sumsR (.inl rfl) hy hl hn hm hw hA hb
end W86
set_option linter.all false
set_option maxRecDepth 100000
set_option maxHeartbeats 1000000
/-! W5: the law's judgement of an answer. -/
namespace W86
open PySem MP I86
variable {fuel d : Nat} {st : St}
/-- sizes: what is given, what is answered -/
abbrev Sm (q : Rat) : Prop := Sz 60 q
abbrev Lg (q : Rat) : Prop := Sz 500 q
theorem dotR_sz {A : Nat} : ∀ (xs ys : List Rat), (∀ q ∈ xs, ∀ r ∈ ys, Sz A (q * r)) → Sz (xs.length * (A + 1) + 1) (dotR xs ys)
  | [], ys, _ => by
    have e : dotR [] ys = 0 := by cases ys <;> rfl
    rw [e]; exact sz_zero _
  | x :: xs, [], _ => by
    have e : dotR (x :: xs) [] = 0 := rfl
    rw [e]; exact sz_zero _
  | x :: xs, y :: ys, h => by
    have ih := dotR_sz xs ys fun q hq r hr => h q (List.mem_cons_of_mem _ hq) r (List.mem_cons_of_mem _ hr)
    have e : dotR (x :: xs) (y :: ys) = x * y + dotR xs ys := rfl
    rw [e]
    refine ((h x List.mem_cons_self y List.mem_cons_self).add ih).mono ?_
    rw [List.length_cons, Nat.add_mul, Nat.one_mul]
    omega
/-- a dot product of given by answered numbers -/
theorem ev_dotS {x y : D} {xs ys : List Rat} (hx : IsQ x xs) (hy : IsQ y ys) (hl : xs.length ≤ ys.length) (h6 : xs.length ≤ 6) (hS : ∀ q ∈ xs, ∀ r ∈ ys, ∃ B C, Sz B q ∧ Sz C r ∧ B + C ≤ 560) :
    callF pk.pg chkC fuel (d + 4) 14 [x, y] st = .ok (qD (dotR xs ys)) st ∧ Sz 3400 (dotR xs ys) := by
  have hb : xs.length * (560 + 1) ≤ 6 * (560 + 1) := Nat.mul_le_mul_right _ h6
  have hA : ∀ q ∈ xs, ∀ r ∈ ys, Sz 560 (q * r) ∧ ∃ B C, Sz B q ∧ Sz C r ∧ B + C ≤ 560 := fun q hq r hr => by
    obtain ⟨B, C, h1, h2, h3⟩ := hS q hq r hr
    exact ⟨(h1.mul h2).mono h3, B, C, h1, h2, h3⟩
  refine ⟨ev_dot (A := 560) hx hy hl hA (by omega), ?_⟩
  exact (dotR_sz (A := 560) xs ys fun q hq r hr => (hA q hq r hr).1).mono (by omega)
theorem sm_lg {xs ys : List Rat} (h : ∀ q ∈ xs, Sm q) (h' : ∀ q ∈ ys, Lg q) : ∀ q ∈ xs, ∀ r ∈ ys, ∃ B C, Sz B q ∧ Sz C r ∧ B + C ≤ 560 := fun q hq r hr => ⟨60, 500, h q hq, h' r hr, by omega⟩
theorem lg_sm {xs ys : List Rat} (h : ∀ q ∈ xs, Lg q) (h' : ∀ q ∈ ys, Sm q) : ∀ q ∈ xs, ∀ r ∈ ys, ∃ B C, Sz B q ∧ Sz C r ∧ B + C ≤ 560 := fun q hq r hr => ⟨500, 60, h q hq, h' r hr, by omega⟩
theorem Sm.lg {q : Rat} (h : Sm q) : Lg q := Sz.mono h (by omega)
theorem stepB_tup {c : Cfg} {p : Pos} {k : Nat} {ns : List (Pos × Nat)} {sb : Ss} {xs : List D} {env : En} (h : xs.length = ns.length) : stepB c (.tup p k ns) sb (.tup xs) env st = exs c sb ((ns.zip xs).foldl (fun e (q : (Pos × Nat) × D) => e.set q.1.2 (some q.2)) env) st := by
  unfold stepB bindT
  simp [h]
def bodyF : Ss → Nat → Ss
  | .cons (.for_ _ _ _ b) _, 0 => b
  | .cons _ ss, n + 1 => bodyF ss n
  | _, _ => .nil
/-! entries that are not below 0 -/
theorem ent_loop {c : Cfg} (p : Pos) (a0 a1 a2 : D) (r1 r2 r3 : Option D) : ∀ (qs : List Rat) (k0 : Option D), (∀ q ∈ qs, 0 ≤ q) → ∃ k1, forL (stepB c (.name p 3) (bodyF b17 0)) (qs.map qD) [some a0, some a1, some a2, k0, r1, r2, r3] st = .next [some a0, some a1, some a2, k1, r1, r2, r3] st
  | [], k0, _ => ⟨k0, by unfold forL; rfl⟩
  | q :: qs, k0, h => by
    obtain ⟨k1, ih⟩ := ent_loop p a0 a1 a2 r1 r2 r3 qs (some (qD q)) fun r hr => h r (List.mem_cons_of_mem _ hr)
    refine ⟨k1, ?_⟩
    rw [List.map_cons]
    unfold forL
    have hq : ¬ q.num < 0 := by
      have := Rat.num_nonneg.mpr (h q List.mem_cons_self)
      omega
    have step : stepB c (.name p 3) (bodyF b17 0) (qD q) [some a0, some a1, some a2, k0, r1, r2, r3] st = .next [some a0, some a1, some a2, some (qD q), r1, r2, r3] st := by
      simp [bodyF, b17, hq]
    rw [step]
    exact ih
def dueQ (flat : Bool) (r : Row) : Rat := if flat = true then 0 else r.2
theorem rows_loop (p : Pos) (pl pb : Pos) {a0 y : D} {qs : List Rat} (flat : Bool) (hy : IsQ y qs) (hq : ∀ q ∈ qs, Lg q) :
    ∀ (rs : List Row) (k0 k1 k2 k3 : Option D), (∀ r ∈ rs, r.1.length = qs.length ∧ r.1.length ≤ 6 ∧ (∀ x ∈ r.1, Sm x) ∧ Sm r.2 ∧ dueQ flat r ≤ dotR r.1 qs) →
      ∃ l1 l2 l3, forL (stepB (cfgOf pk.pg fuel (callF pk.pg chkC fuel (d + 4))) (.tup p 0 [(pl, 4), (pb, 5)]) (bodyF b17 1)) (rs.map rowD) [some a0, some y, some (.bl flat), k0, k1, k2, k3] st = .next [some a0, some y, some (.bl flat), k0, l1, l2, l3] st
  | [], k0, k1, k2, k3, _ => ⟨k1, k2, k3, by unfold forL; rfl⟩
  | r :: rs, k0, k1, k2, k3, h => by
    obtain ⟨h1, h2, h3, h4, h5⟩ := h r List.mem_cons_self
    obtain ⟨hd, hsz⟩ := ev_dotS (fuel := fuel) (d := d) (st := st) (x := .lst (r.1.map qD)) (.inl rfl) hy (by omega) h2 (sm_lg h3 hq)
    obtain ⟨l1, l2, l3, ih⟩ := rows_loop p pl pb flat hy hq rs k0 (some (.lst (r.1.map qD))) (some (qD r.2)) (some (qD (dueQ flat r))) fun r' hr' => h r' (List.mem_cons_of_mem _ hr')
    refine ⟨l1, l2, l3, ?_⟩
    rw [List.map_cons]
    unfold forL
    have hdue : Sm (dueQ flat r) := by
      unfold dueQ
      split
      · exact sz_zero 59
      · exact h4
    have hb := ev_lbelow (fuel := fuel) (d := d + 3) (st := st) _ _ hsz hdue (by omega)
    have hnl : ¬ (dotR r.1 qs < dueQ flat r) := Rat.not_lt.mpr h5
    have step : stepB (cfgOf pk.pg fuel (callF pk.pg chkC fuel (d + 4))) (.tup p 0 [(pl, 4), (pb, 5)]) (bodyF b17 1) (rowD r) [some a0, some y, some (.bl flat), k0, k1, k2, k3] st =
        .next [some a0, some y, some (.bl flat), k0, some (.lst (r.1.map qD)), some (qD r.2), some (qD (dueQ flat r))] st := by
      unfold rowD
      rw [stepB_tup rfl]
      have e0 : D.tup [.int 0, .int 1] = qD 0 := rfl
      cases flat with
      | true =>
        have e1 : dueQ true r = 0 := rfl
        rw [e1] at hb hnl ⊢
        simp [bodyF, b17, e0, hy.get, hd, hb, hnl]
      | false =>
        have e1 : dueQ false r = r.2 := rfl
        rw [e1] at hb hnl ⊢
        simp [bodyF, b17, e0, hy.get, hd, hb, hnl]
    rw [step]
    exact ih
/-- the place of a target's k-th name -/
def tgQ : Ss → Nat → Nat → Pos
  | .cons (.for_ _ (.tup _ _ ns) _ _) _, 0, k => (ns.getD k (⟨0, 0, 0, 0⟩, 0)).1
  | .cons _ ss, n + 1, k => tgQ ss n k
  | _, _, _ => ⟨0, 0, 0, 0⟩
theorem wk_tup (xs : List D) : wkD st (.tup xs) = some (.items xs) := rfl
theorem wk_lst (xs : List D) : wkD st (.lst xs) = some (.items xs) := rfl
theorem ev_entries (flat : Bool) (rs : List Row) (qs : List Rat) (hq : ∀ q ∈ qs, Lg q) (h0 : ∀ q ∈ qs, 0 ≤ q) (h : ∀ r ∈ rs, r.1.length = qs.length ∧ r.1.length ≤ 6 ∧ (∀ x ∈ r.1, Sm x) ∧ Sm r.2 ∧ dueQ flat r ≤ dotR r.1 qs) :
    callF pk.pg chkC fuel (d + 5) 17 [rowsD rs, .tup (qs.map qD), .bl flat] st = .ok (.bl true) st := by
  rw [call_eq 17 f17 rfl _ [rowsD rs, .tup (qs.map qD), .bl flat] rfl]
  unfold runF f17 b17
  obtain ⟨k1, h1⟩ := ent_loop (st := st) (c := cfgOf pk.pg fuel (callF pk.pg chkC fuel (d + 4))) (tgP b17 0) (rowsD rs) (.tup (qs.map qD)) (.bl flat) none none none qs none h0
  obtain ⟨l1, l2, l3, h2⟩ := rows_loop (fuel := fuel) (d := d) (st := st) (tgP b17 1) (tgQ b17 1 0) (tgQ b17 1 1) (a0 := rowsD rs) (y := .tup (qs.map qD)) flat (.inr rfl) hq rs k1 none none none h
  simp [bodyF, b17, tgP, tgQ] at h1 h2
  have e : wkD st (rowsD rs) = some (.items (rs.map rowD)) := rfl
  simp [wk_tup, e, h1, h2]
/-! prices -/
theorem price_loop {c : Cfg} (p : Pos) (a0 a1 a2 : D) (r1 r2 : Option D) : ∀ (qs : List Rat) (k0 : Option D), (∀ q ∈ qs, 0 ≤ q) → ∃ k1, forL (stepB c (.name p 3) (bodyF b18 0)) (qs.map qD) [some a0, some a1, some a2, k0, r1, r2] st = .next [some a0, some a1, some a2, k1, r1, r2] st
  | [], k0, _ => ⟨k0, by unfold forL; rfl⟩
  | q :: qs, k0, h => by
    obtain ⟨k1, ih⟩ := price_loop p a0 a1 a2 r1 r2 qs (some (qD q)) fun r hr => h r (List.mem_cons_of_mem _ hr)
    refine ⟨k1, ?_⟩
    rw [List.map_cons]
    unfold forL
    have hq : ¬ q.num < 0 := by
      have := Rat.num_nonneg.mpr (h q List.mem_cons_self)
      omega
    have step : stepB c (.name p 3) (bodyF b18 0) (qD q) [some a0, some a1, some a2, k0, r1, r2] st = .next [some a0, some a1, some a2, some (qD q), r1, r2] st := by
      simp [bodyF, b18, hq]
    rw [step]
    exact ih
theorem sums_loop {S : Nat} (hS : S + 60 ≤ 4499) (p : Pos) (a1 a2 : D) (k0 : Option D) (cs ss : List Rat) (hl : cs.length = ss.length) (hc : ∀ c ∈ cs, Sm c) (hs : ∀ s ∈ ss, Sz S s) (h : ∀ j (h : j < cs.length) (h' : j < ss.length), ss[j] ≤ cs[j]) :
    ∀ (m i : Nat) (j0 : Option D), i + m = cs.length → ∃ j1, forL (stepB (cfgOf pk.pg fuel (callF pk.pg chkC fuel (d + 1))) (.name p 5) (bodyF b18 2)) (rangeL i cs.length) [some (.lst (cs.map qD)), some a1, some a2, k0, some (.ref st.length), j0] (st ++ [.lst (ss.map qD)]) =
      .next [some (.lst (cs.map qD)), some a1, some a2, k0, some (.ref st.length), j1] (st ++ [.lst (ss.map qD)])
  | 0, i, j0, hi => by
    rw [range_nil _ _ (by omega)]
    exact ⟨j0, by unfold forL; rfl⟩
  | m + 1, i, j0, hi => by
    have h1 : i < cs.length := by omega
    have h2 : i < ss.length := by omega
    obtain ⟨j1, ih⟩ := sums_loop hS p a1 a2 k0 cs ss hl hc hs h m (i + 1) (some (.int i)) (by omega)
    refine ⟨j1, ?_⟩
    rw [range_cons _ _ (by omega)]
    unfold forL
    have hb := ev_lbelow (fuel := fuel) (d := d) (st := st ++ [.lst (ss.map qD)]) _ _ (hc _ (List.getElem_mem h1)) (hs _ (List.getElem_mem h2)) (by omega)
    have hnl : ¬ (cs[i] < ss[i]) := Rat.not_lt.mpr (h i h1 h2)
    have g1 : idxD (st ++ [.lst (ss.map qD)]) (.lst (cs.map qD)) (.int i) = some (qD cs[i]) := (IsQ.idx (.inl rfl) i h1)
    have g2 : L2.atI (ss.map qD) (i : Int) = some (qD ss[i]) := by
      rw [atI_nat]; simp [h2]
    have step : stepB (cfgOf pk.pg fuel (callF pk.pg chkC fuel (d + 1))) (.name p 5) (bodyF b18 2) (.int i) [some (.lst (cs.map qD)), some a1, some a2, k0, some (.ref st.length), j0] (st ++ [.lst (ss.map qD)]) =
        .next [some (.lst (cs.map qD)), some a1, some a2, k0, some (.ref st.length), some (.int i)] (st ++ [.lst (ss.map qD)]) := by
      simp only [bodyF, b18, stepB_name]
      simp only [List.set_cons_succ, List.set_cons_zero, exs_cons, ex_if, evT_eq, ev_call, evs_cons, ev_idx, ev_var, getV_succ, getV_ref, getV_int, getV_lst, ofO_some', ok_bind, ok_bindS, idx_end, g1, g2, evs_nil, cfg_call, hb, hnl, decide_false, tst_bl, next_bind, exs_nil, Bool.false_eq_true, if_false]
    rw [step]
    have e2 : ((i + 1 : Nat) : Int) = (i : Int) + 1 := by omega
    rw [e2] at ih
    exact ih
theorem sumsFrom_length : ∀ (rs : List Row) (ys acc : List Rat), (sumsFrom acc rs ys).length = acc.length
  | [], ys, acc => by cases ys <;> rfl
  | r :: rs, [], acc => rfl
  | r :: rs, y :: ys, acc => by
    have e : sumsFrom acc (r :: rs) (y :: ys) = sumsFrom (addRow y acc r.1) rs ys := rfl
    rw [e, sumsFrom_length rs ys, addRow_length]
theorem sumsFrom_sz {A : Nat} : ∀ (rs : List Row) (ys acc : List Rat) (S : Nat), (∀ a ∈ acc, Sz S a) → (∀ r ∈ rs, ∀ y ∈ ys, ∀ x ∈ r.1, Sz A (y * x)) → ∀ b ∈ sumsFrom acc rs ys, Sz (S + rs.length * (A + 1)) b
  | [], ys, acc, S, h, h', b, hb => by
    have e : sumsFrom acc [] ys = acc := by cases ys <;> rfl
    rw [e] at hb
    exact (h b hb).mono (by omega)
  | r :: rs, [], acc, S, h, h', b, hb => (h b hb).mono (by omega)
  | r :: rs, y :: ys, acc, S, h, h', b, hb => by
    have e : sumsFrom acc (r :: rs) (y :: ys) = sumsFrom (addRow y acc r.1) rs ys := rfl
    rw [e] at hb
    have z := sumsFrom_sz rs ys (addRow y acc r.1) (S + A + 1) (addRow_sz acc r.1 h fun x hx => h' r List.mem_cons_self y List.mem_cons_self x hx) (fun r' hr y' hy => h' r' (List.mem_cons_of_mem _ hr) y' (List.mem_cons_of_mem _ hy)) b hb
    refine z.mono ?_
    rw [List.length_cons, Nat.add_mul, Nat.one_mul]
    omega
theorem ev_prices (cs : List Rat) (rs : List Row) (ys : List Rat) (hc : ∀ c ∈ cs, Sm c) (hn : cs.length ≤ 6) (hm : rs.length ≤ 6) (hl : rs.length = ys.length) (hr : ∀ r ∈ rs, r.1.length = cs.length ∧ ∀ x ∈ r.1, Sm x) (hy : ∀ y ∈ ys, Lg y) (h0 : ∀ y ∈ ys, 0 ≤ y)
    (h : ∀ j (h : j < cs.length) (h' : j < (sumsFrom (List.replicate cs.length 0) rs ys).length), (sumsFrom (List.replicate cs.length 0) rs ys)[j] ≤ cs[j]) :
    callF pk.pg chkC fuel (d + 5) 18 [.lst (cs.map qD), rowsD rs, .tup (ys.map qD)] st = .ok (.bl true) st := by
  rw [call_eq 18 f18 rfl _ [.lst (cs.map qD), rowsD rs, .tup (ys.map qD)] rfl]
  unfold runF f18 b18
  have hA : SzD 560 rs ys := fun r hr' y hy' x hx => ⟨(hy y hy').mul ((hr r hr').2 x hx), 500, 60, hy y hy', (hr r hr').2 x hx, by omega⟩
  have hb : rs.length * (560 + 1) ≤ 6 * (560 + 1) := Nat.mul_le_mul_right _ hm
  have hs := ev_sums (fuel := fuel) (d := d) (st := st) (A := 560) (y := .tup (ys.map qD)) (.inr rfl) (by omega) (show small cs.length by unfold small; omega) (show small rs.length by unfold small; omega) (fun r hr' => (hr r hr').1) hA (by omega)
  obtain ⟨k1, h1⟩ := price_loop (st := st) (c := cfgOf pk.pg fuel (callF pk.pg chkC fuel (d + 4))) (tgP b18 0) (.lst (cs.map qD)) (rowsD rs) (.tup (ys.map qD)) none none ys none h0
  have hsz : ∀ s ∈ sumsFrom (List.replicate cs.length 0) rs ys, Sz 3400 s := fun s hs' => (sumsFrom_sz (A := 560) rs ys _ 1 (fun a ha => by rw [List.eq_of_mem_replicate ha]; exact sz_zero 0) (fun r hr' y hy' x hx => (hA r hr' y hy' x hx).1) s hs').mono (by omega)
  obtain ⟨j1, h2⟩ := sums_loop (fuel := fuel) (d := d + 3) (st := st) (S := 3400) (by omega) (tgP b18 2) (rowsD rs) (.tup (ys.map qD)) k1 cs _ (by rw [sumsFrom_length, List.length_replicate]) hc hsz h cs.length 0 none (by omega)
  simp only [bodyF, b18, tgP, show ((0 : Nat) : Int) = 0 from rfl] at h1 h2
  have hsm : small cs.length := by unfold small; omega
  simp [wk_tup, h1, hs, hsm, h2]
end W86
set_option linter.all false
set_option maxRecDepth 100000
set_option maxHeartbeats 1000000
/-! W6: an answer that proves itself is shown. -/
namespace W86
open PySem MP I86
variable {fuel d : Nat} {st : St}
theorem cmp_eq_str (x y : Str) : cmpD st .eq (.str x) (.str y) = some (decide (x = y)) := by
  show some (PyData.eqv (.str x) (.str y)) = _
  congr 1
@[simp] theorem idx_tup2 (a b c : D) (xs : List D) : idxD st (.tup (a :: b :: c :: xs)) (.int 2) = some c := by
  have h : (2 : Int) < (xs.length : Int) + 1 + 1 + 1 := by omega
  simp [idxD, L2.atI, L2.ixN, h]
@[simp] theorem idx_tup3 (a b c e : D) (xs : List D) : idxD st (.tup (a :: b :: c :: e :: xs)) (.int 3) = some e := by
  have h : (3 : Int) < (xs.length : Int) + 1 + 1 + 1 + 1 := by omega
  simp [idxD, L2.atI, L2.ixN, h]
theorem cmp_eq_qD (p q : Rat) : cmpD st .eq (qD p) (qD q) = some (decide (p = q)) := by
  have e : cmpD st .eq (qD p) (qD q) = some (PyData.eqv (.tuple [.int p.num, .int p.den]) (.tuple [.int q.num, .int q.den])) := rfl
  rw [e]
  congr 1
  by_cases h : p = q
  · subst h
    simp [PyData.eqv, PyData.eqvAll]
  · rw [decide_eq_false h, Bool.eq_false_iff]
    intro z
    apply h
    simp [PyData.eqv, PyData.eqvAll] at z
    exact Rat.ext (by omega) (by omega)
theorem bounds_comp {c : Cfg} {own : List Nat} {p p1 p2 p3 : Pos} {kk i : Nat} {env : En} (rs : List Row) (h : ∀ r : Row, ((wipeE env own).set i (some (rowD r)))[i]? = some (some (rowD r))) :
    compL (turnB c own (.idx p (.var p1 i) (.cst p2 kk (.int 1))) (.name p3 i) .nil env) (rs.map rowD) [] st = .ok ((rs.map (·.2)).map qD) st := by
  rw [compL_all (f := fun x => match x with | .tup [_, b] => b | x => x) _ (fun x hx => ?_)]
  · simp [rowD, Function.comp_def]
  · obtain ⟨r, hr, rfl⟩ := List.mem_map.mp hx
    rw [turn_name]
    have hne : ∃ y ys, (wipeE env own).set i (some (rowD r)) = y :: ys := by
      have := h r
      cases q : (wipeE env own).set i (some (rowD r)) with
      | nil => rw [q] at this; simp at this
      | cons y ys => exact ⟨y, ys, rfl⟩
    obtain ⟨y, ys, q⟩ := hne
    have hg : getV (y :: ys) i = some (rowD r) := by
      unfold getV
      rw [← q, h r]; rfl
    rw [q]
    simp [hg]
    rfl
theorem zeros_comp {c : Cfg} {own : List Nat} {p p1 p2 p3 : Pos} {k1 k2 kk i : Nat} {env : En} (cs : List D) (hne : ∀ x, ∃ y ys, (wipeE env own).set i (some x) = y :: ys) :
    compL (turnB c own (.tup p kk (.cons (.cst p1 k1 (.int 0)) (.cons (.cst p2 k2 (.int 1)) .nil))) (.name p3 i) .nil env) cs [] st = .ok ((List.replicate cs.length (0 : Rat)).map qD) st := by
  rw [compL_all (f := fun x => qD 0) _ (fun x hx => ?_)]
  · simp [List.map_const']
  · rw [turn_name]
    obtain ⟨y, ys, q⟩ := hne x
    rw [q]
    simp
    rfl
/-- what the law knows of its numbers -/
structure Giv (cs : List Rat) (rs : List Row) : Prop where
  n6 : cs.length ≤ 6
  m6 : rs.length ≤ 6
  c : ∀ c ∈ cs, Sm c
  r : ∀ r ∈ rs, r.1.length = cs.length ∧ (∀ x ∈ r.1, Sm x) ∧ Sm r.2
def bnds (rs : List Row) : List Rat := rs.map (·.2)
theorem Giv.b {cs : List Rat} {rs : List Row} (g : Giv cs rs) : ∀ b ∈ bnds rs, Sm b := by
  intro b hb
  obtain ⟨r, hr, rfl⟩ := List.mem_map.mp hb
  exact (g.r r hr).2.2
structure Pri (cs : List Rat) (rs : List Row) (ys : List Rat) : Prop where
  len : rs.length = ys.length
  lg : ∀ y ∈ ys, Lg y
  nn : ∀ y ∈ ys, 0 ≤ y
  le : ∀ j (h : j < cs.length) (h' : j < (sumsFrom (List.replicate cs.length 0) rs ys).length), (sumsFrom (List.replicate cs.length 0) rs ys)[j] ≤ cs[j]
structure Ent (flat : Bool) (rs : List Row) (n : Nat) (xs : List Rat) : Prop where
  len : n = xs.length
  lg : ∀ y ∈ xs, Lg y
  nn : ∀ y ∈ xs, 0 ≤ y
  le : ∀ r ∈ rs, dueQ flat r ≤ dotR r.1 xs
theorem ev_ent {flat : Bool} {cs : List Rat} {rs : List Row} {xs : List Rat} (g : Giv cs rs) (e : Ent flat rs cs.length xs) : callF pk.pg chkC fuel (d + 5) 17 [rowsD rs, .tup (xs.map qD), .bl flat] st = .ok (.bl true) st :=
  ev_entries flat rs xs e.lg e.nn fun r hr => ⟨by rw [(g.r r hr).1, e.len], by rw [(g.r r hr).1]; exact g.n6, (g.r r hr).2.1, (g.r r hr).2.2, e.le r hr⟩
theorem ev_pri {cs : List Rat} {rs : List Row} {ys : List Rat} (g : Giv cs rs) (e : Pri cs rs ys) : callF pk.pg chkC fuel (d + 5) 18 [.lst (cs.map qD), rowsD rs, .tup (ys.map qD)] st = .ok (.bl true) st :=
  ev_prices cs rs ys g.c g.n6 g.m6 e.len (fun r hr => ⟨(g.r r hr).1, (g.r r hr).2.1⟩) e.lg e.nn e.le
theorem ev_ratiosT {n : Nat} (xs : List Rat) (h : ∀ q ∈ xs, Lg q) (hl : n = xs.length) : callF pk.pg chkC fuel (d + 3) 15 [.tup (xs.map qD), .int n] st = .ok (.bl true) st := by
  subst hl
  exact ev_ratios (B := 500) (by omega) xs h
theorem bool_and_tt {a b : Bool} (h1 : a = true) (h2 : b = true) : (a && b) = true := by rw [h1, h2]; rfl
theorem ev_shown_best {cs : List Rat} {rs : List Row} {xs ys : List Rat} {v : Rat} (g : Giv cs rs) (hx : Ent false rs cs.length xs) (hy : Pri cs rs ys) (hv : Sz 3400 v) (e1 : dotR cs xs = v) (e2 : dotR ys (bnds rs) = v) :
    callF pk.pg chkC fuel (d + 6) 19 [.lst (cs.map qD), rowsD rs, .tup [.str "best", qD v, .tup (xs.map qD), .tup (ys.map qD)]] st = .ok (.bl true) st := by
  rw [call_eq 19 f19 rfl _ [.lst (cs.map qD), rowsD rs, .tup [.str "best", qD v, .tup (xs.map qD), .tup (ys.map qD)]] rfl]
  unfold runF f19 b19
  have w1 : wkD st (rowsD rs) = some (.items (rs.map rowD)) := rfl
  have d1 := (ev_dotS (fuel := fuel) (d := d + 1) (st := st) (x := .lst (cs.map qD)) (y := .tup (xs.map qD)) (xs := cs) (ys := xs) (.inl rfl) (.inr rfl) (by rw [hx.len]; exact Nat.le_refl _) g.n6 (sm_lg g.c hx.lg)).1
  have d2 := (ev_dotS (fuel := fuel) (d := d + 1) (st := st) (x := .tup (ys.map qD)) (y := .lst ((bnds rs).map qD)) (xs := ys) (ys := bnds rs) (.inr rfl) (.inl rfl) (by simp [bnds, hy.len]) (by rw [← hy.len]; exact g.m6) (lg_sm hy.lg g.b)).1
  rw [e1] at d1
  rw [e2] at d2
  have r1 := ev_isRatio (fuel := fuel) (d := d + 3) (st := st) v hv (by omega)
  have r2 := ev_ratiosT (fuel := fuel) (d := d + 2) (st := st) xs hx.lg hx.len
  have r3 := ev_ratiosT (fuel := fuel) (d := d + 2) (st := st) ys hy.lg hy.len
  have s1 := ev_ent (fuel := fuel) (d := d) (st := st) g hx
  have s2 := ev_pri (fuel := fuel) (d := d) (st := st) g hy
  have cb := fun (c : Cfg) (p p1 p2 p3 : Pos) (o1 : D) => bounds_comp (st := st) (c := c) (own := [5]) (p := p) (p1 := p1) (p2 := p2) (p3 := p3) (kk := 0) (i := 5) (env := [some (.lst (cs.map qD)), some (rowsD rs), some o1, none, none, none, none]) rs (fun r => rfl)
  have cz := fun (c : Cfg) (p p1 p2 p3 : Pos) (o1 o2 : D) => zeros_comp (st := st) (c := c) (own := [6]) (p := p) (p1 := p1) (p2 := p2) (p3 := p3) (k1 := 0) (k2 := 0) (kk := 0) (i := 6) (env := [some (.lst (cs.map qD)), some (rowsD rs), some o1, some o2, none, none, none]) (cs.map qD) (fun r => ⟨_, _, rfl⟩)
  have e0 : (rs.map (·.2)) = bnds rs := rfl
  rw [e0] at cb
  simp [w1, wk_lst, cb, cz, d1, d2, r1, r2, r3, s1, s2, cmp_eq_str, cmp_eq_qD]
def zrs (n : Nat) : List Rat := List.replicate n 0
theorem Giv.z {cs : List Rat} {rs : List Row} (g : Giv cs rs) : Giv (zrs cs.length) rs :=
  ⟨by rw [zrs, List.length_replicate]; exact g.n6, g.m6, fun c hc => by rw [List.eq_of_mem_replicate hc]; exact sz_zero 59, fun r hr => ⟨by rw [zrs, List.length_replicate]; exact (g.r r hr).1, (g.r r hr).2⟩⟩
theorem ev_shown_bar {cs : List Rat} {rs : List Row} {ys : List Rat} (g : Giv cs rs) (hy : Pri (zrs cs.length) rs ys) (h : 0 < dotR ys (bnds rs)) :
    callF pk.pg chkC fuel (d + 6) 19 [.lst (cs.map qD), rowsD rs, .tup [.str "bar", .tup (ys.map qD)]] st = .ok (.bl true) st := by
  rw [call_eq 19 f19 rfl _ [.lst (cs.map qD), rowsD rs, .tup [.str "bar", .tup (ys.map qD)]] rfl]
  unfold runF f19 b19
  have w1 : wkD st (rowsD rs) = some (.items (rs.map rowD)) := rfl
  have d2 := (ev_dotS (fuel := fuel) (d := d + 1) (st := st) (x := .tup (ys.map qD)) (y := .lst ((bnds rs).map qD)) (xs := ys) (ys := bnds rs) (.inr rfl) (.inl rfl) (by simp [bnds, hy.len]) (by rw [← hy.len]; exact g.m6) (lg_sm hy.lg g.b)).1
  have r3 := ev_ratiosT (fuel := fuel) (d := d + 2) (st := st) ys hy.lg hy.len
  have s2 := ev_pri (fuel := fuel) (d := d) (st := st) g.z hy
  have cb := fun (c : Cfg) (p p1 p2 p3 : Pos) (o1 : D) => bounds_comp (st := st) (c := c) (own := [5]) (p := p) (p1 := p1) (p2 := p2) (p3 := p3) (kk := 0) (i := 5) (env := [some (.lst (cs.map qD)), some (rowsD rs), some o1, none, none, none, none]) rs (fun r => rfl)
  have cz := fun (c : Cfg) (p p1 p2 p3 : Pos) (o1 o2 : D) => zeros_comp (st := st) (c := c) (own := [6]) (p := p) (p1 := p1) (p2 := p2) (p3 := p3) (k1 := 0) (k2 := 0) (kk := 0) (i := 6) (env := [some (.lst (cs.map qD)), some (rowsD rs), some o1, some o2, none, none, none]) (cs.map qD) (fun r => ⟨_, _, rfl⟩)
  have e0 : (rs.map (·.2)) = bnds rs := rfl
  have e1 : List.replicate (cs.map qD).length (0 : Rat) = zrs cs.length := by simp [zrs]
  rw [e0] at cb
  rw [e1] at cz
  have hp : 0 < (dotR ys (bnds rs)).num := by
    have h1 := Rat.num_nonneg.mpr (Rat.le_of_lt h)
    have h2 : (dotR ys (bnds rs)).num ≠ 0 := fun z => by
      rw [Rat.num_eq_zero.mp z] at h
      exact Rat.lt_irrefl h
    omega
  have n1 : ("bar" : Str) ≠ "best" := by decide
  simp [w1, wk_lst, cb, cz, d2, r3, s2, cmp_eq_str, cmp_eq_qD, n1, hp]
theorem ev_shown_ray {cs : List Rat} {rs : List Row} {xs ws : List Rat} (g : Giv cs rs) (hx : Ent false rs cs.length xs) (hw : Ent true rs cs.length ws) (h : dotR cs ws < 0) :
    callF pk.pg chkC fuel (d + 6) 19 [.lst (cs.map qD), rowsD rs, .tup [.str "ray", .tup (xs.map qD), .tup (ws.map qD)]] st = .ok (.bl true) st := by
  rw [call_eq 19 f19 rfl _ [.lst (cs.map qD), rowsD rs, .tup [.str "ray", .tup (xs.map qD), .tup (ws.map qD)]] rfl]
  unfold runF f19 b19
  have w1 : wkD st (rowsD rs) = some (.items (rs.map rowD)) := rfl
  have d1 := (ev_dotS (fuel := fuel) (d := d + 1) (st := st) (x := .lst (cs.map qD)) (y := .tup (ws.map qD)) (xs := cs) (ys := ws) (.inl rfl) (.inr rfl) (by rw [hw.len]; exact Nat.le_refl _) g.n6 (sm_lg g.c hw.lg)).1
  have r2 := ev_ratiosT (fuel := fuel) (d := d + 2) (st := st) xs hx.lg hx.len
  have r3 := ev_ratiosT (fuel := fuel) (d := d + 2) (st := st) ws hw.lg hw.len
  have s1 := ev_ent (fuel := fuel) (d := d) (st := st) g hx
  have s2 := ev_ent (fuel := fuel) (d := d) (st := st) g hw
  have cb := fun (c : Cfg) (p p1 p2 p3 : Pos) (o1 : D) => bounds_comp (st := st) (c := c) (own := [5]) (p := p) (p1 := p1) (p2 := p2) (p3 := p3) (kk := 0) (i := 5) (env := [some (.lst (cs.map qD)), some (rowsD rs), some o1, none, none, none, none]) rs (fun r => rfl)
  have cz := fun (c : Cfg) (p p1 p2 p3 : Pos) (o1 o2 : D) => zeros_comp (st := st) (c := c) (own := [6]) (p := p) (p1 := p1) (p2 := p2) (p3 := p3) (k1 := 0) (k2 := 0) (kk := 0) (i := 6) (env := [some (.lst (cs.map qD)), some (rowsD rs), some o1, some o2, none, none, none]) (cs.map qD) (fun r => ⟨_, _, rfl⟩)
  have hp : (dotR cs ws).num < 0 := by
    have h1 : ¬ 0 ≤ (dotR cs ws).num := fun z => Rat.not_le.mpr h (Rat.num_nonneg.mp z)
    omega
  have n1 : ("ray" : Str) ≠ "best" := by decide
  have n2 : ("ray" : Str) ≠ "bar" := by decide
  simp [w1, wk_lst, cb, cz, d1, r2, r3, s1, s2, cmp_eq_str, cmp_eq_qD, n1, n2, hp]
end W86
set_option linter.all false
set_option maxRecDepth 100000
set_option maxHeartbeats 1000000
/-! W7: what is drawn. -/
namespace W86
open PySem MP I86
variable {fuel d : Nat} {st : St}
@[simp] theorem bi_sum_ints (ns : List Int) (m : Bool) : biD .sum1 m [.lst (ns.map D.int)] st = .ok (.int ns.sum) st := by
  have e : ∀ ns : List Int, intsOf (ns.map D.int) = some ns := by
    intro ns
    induction ns with
    | nil => rfl
    | cons a l ih => simp [intsOf, ih]
  show (match (lstOf st (.lst (ns.map D.int))).bind intsOf with | some ns => (Res.ok (D.int ns.sum) st : Res D) | none => .bad) = _
  have e2 : (lstOf st (.lst (ns.map D.int))).bind intsOf = some ns := e ns
  rw [e2]
theorem sum_bd {K : Nat} : ∀ (ns : List Int), (∀ n ∈ ns, Bd K n) → Bd (K + ns.length) ns.sum
  | [], _ => by unfold Bd; simp; exact Nat.two_pow_pos _
  | n :: ns, h => by
    rw [List.sum_cons, List.length_cons]
    have h1 := (h n List.mem_cons_self).mono (show K ≤ K + ns.length by omega)
    have h2 := sum_bd ns fun m hm => h m (List.mem_cons_of_mem _ hm)
    exact (h1.add h2).mono (by omega)
theorem ev_cell {K : Nat} (ns : List Int) (k : Nat) (hk : k ≤ 100) (hl : ns.length ≤ 63) (hb : ∀ n ∈ ns, Bd K n) (hK : K ≤ 2000000) : ∃ i : Int, callF pk.pg chkC fuel (d + 1) 5 [.lst (ns.map D.int), .int k] st = .ok (.int i) st := by
  rw [call_eq 5 f5 rfl _ [.lst (ns.map D.int), .int k] rfl]
  unfold runF f5 b5
  have hs := sum_bd ns hb
  have m1 : MP.MulOk ns.sum 31 := hs.mulOk (C := 5) (by unfold Bd; decide) (by omega)
  have m2 : MP.MulOk 17 (k : Int) := Bd.mulOk (B := 5) (C := 7) (by unfold Bd; decide) (by unfold Bd; simp; omega) (by omega)
  by_cases h : k < ns.length
  · have h1 : (k : Int) < (ns.length : Int) := by omega
    have e : idxD st (.lst (ns.map D.int)) (.int (k : Int)) = some (.int ns[k]) := by
      rw [idx_lst _ k (by simpa using h)]; simp
    exact ⟨ns[k], by simp [h1, e]⟩
  · have h1 : ¬ ((k : Int) < (ns.length : Int)) := by omega
    exact ⟨ns.sum * 31 + 17 * k + 5, by simp [h1, m1, m2]⟩
theorem fmod_in (x p : Int) (hp : 0 < p) : 0 ≤ x.fmod p ∧ x.fmod p < p := by
  rw [Int.fmod_eq_emod_of_nonneg _ (by omega)]
  exact ⟨Int.emod_nonneg _ (by omega), Int.emod_lt_of_pos _ hp⟩
theorem bd_of {B : Nat} {i : Int} (h0 : 0 ≤ i) (h : i < 2 ^ B) : Bd B i := by
  unfold Bd
  have h2 : ((i.natAbs : Nat) : Int) < ((2 ^ B : Nat) : Int) := by
    have e : ((i.natAbs : Nat) : Int) = i := by omega
    rw [e]
    simpa using h
  omega
theorem bm_append_end (xs : List D) (x : D) (hl : xs.length < lim) (m : Bool) : bmD .append m (.ref st.length) [x] (st ++ [.lst xs]) = .ok .non (st ++ [.lst (xs ++ [x])]) := by
  unfold bmD
  simp [hl]
theorem bmT_end (xs : List D) : bmT .append (.ref st.length) (st ++ [.lst xs]) = true := by
  unfold bmT lstOf
  simp
/-- three figures -/
def Fig (i : Int) : Prop := 0 ≤ i ∧ i < 1000
theorem draws_loop {c : Cfg} (p : Pos) (a0 a1 : D) (seed : Int) (big : Bool) (n : Nat) (hn : n ≤ 100) : ∀ (m i : Nat) (left : Int) (acc : List Int) (k0 x0 : Option D), i + m = n → 0 ≤ left → acc.length = i → (∀ a ∈ acc, Fig a) →
    ∃ (left' : Int) (acc' : List Int) (k1 x1 : Option D), acc'.length = n ∧ (∀ a ∈ acc', Fig a) ∧ forL (stepB c (.name p 6) (bodyF b6 4)) (rangeL i n) [some a0, some a1, some (.int seed), some (.int left), some (.bl big), some (.ref st.length), k0, x0] (st ++ [.lst (acc.map D.int)]) =
      .next [some a0, some a1, some (.int seed), some (.int left'), some (.bl big), some (.ref st.length), k1, x1] (st ++ [.lst (acc'.map D.int)])
  | 0, i, left, acc, k0, x0, hi, hl, ha, hf => by
    rw [range_nil _ _ (by omega)]
    exact ⟨left, acc, k0, x0, by omega, hf, by unfold forL; rfl⟩
  | m + 1, i, left, acc, k0, x0, hi, hl, ha, hf => by
    rw [range_cons _ _ (by omega)]
    unfold forL
    have hlim : (acc.map D.int).length < lim := by
      rw [List.length_map, ha]; unfold lim; omega
    have step : ∃ (left' a : Int) (x1 : Option D), 0 ≤ left' ∧ Fig a ∧ stepB c (.name p 6) (bodyF b6 4) (.int i) [some a0, some a1, some (.int seed), some (.int left), some (.bl big), some (.ref st.length), k0, x0] (st ++ [.lst (acc.map D.int)]) =
        .next [some a0, some a1, some (.int seed), some (.int left'), some (.bl big), some (.ref st.length), some (.int i), x1] (st ++ [.lst ((acc ++ [a]).map D.int)]) := by
      have dv : DivOk 1000 := by decide
      have dv16 : DivOk 16 := by decide
      by_cases hc : big = true ∧ 0 < left
      · have f1 := fmod_in left 1000 (by omega)
        refine ⟨left.fdiv 1000, left.fmod 1000, x0, ?_, f1, ?_⟩
        · rw [Int.fdiv_eq_ediv_of_nonneg _ (by omega)]
          exact Int.ediv_nonneg hl (by omega)
        · simp only [bodyF, b6]
          simp [hc.1, hc.2, bmT_end, bm_append_end _ _ hlim, dv]
      · obtain ⟨q0, q1⟩ := fmod_in seed 2147483647 (by omega)
        have hi0 : (0 : Int) ≤ i := by omega
        have hi1 : (i : Int) < 100 := by omega
        have m1 : MP.MulOk (seed.fmod 2147483647 + 3) 1597334677 := Bd.mulOk (B := 40) (C := 40) (bd_of (by omega) (by omega)) (by unfold Bd; decide) (by omega)
        have m2 : MP.MulOk ((i : Int) + 1) 805459861 := Bd.mulOk (B := 40) (C := 40) (bd_of (by omega) (by omega)) (by unfold Bd; decide) (by omega)
        obtain ⟨r0, r1⟩ := fmod_in ((seed.fmod 2147483647 + 3) * 1597334677 + ((i : Int) + 1) * 805459861) 2147483647 (by omega)
        generalize hx1 : ((seed.fmod 2147483647 + 3) * 1597334677 + ((i : Int) + 1) * 805459861).fmod 2147483647 = x1 at r0 r1
        have b1 : Bd 40 x1 := bd_of r0 (by omega)
        have m3 : MP.MulOk x1 x1 := b1.mulOk b1 (by omega)
        have m4 : MP.MulOk 48271 (i : Int) := Bd.mulOk (B := 40) (C := 40) (by unfold Bd; decide) (bd_of (by omega) (by omega)) (by omega)
        obtain ⟨s0, s1⟩ := fmod_in (x1 * x1 + 48271 * (i : Int) + 7) 2147483629 (by omega)
        generalize hx2 : (x1 * x1 + 48271 * (i : Int) + 7).fmod 2147483629 = x2 at s0 s1
        have b2 : Bd 40 x2 := bd_of s0 (by omega)
        have m5 : MP.MulOk x2 x2 := b2.mulOk b2 (by omega)
        have m6 : MP.MulOk 40692 x2 := Bd.mulOk (B := 40) (C := 40) (by unfold Bd; decide) b2 (by omega)
        have hfig : Fig ((((x2 * x2 + 40692 * x2 + (i : Int) + 3).fmod 2147483587).fdiv 16).fmod 1000) := fmod_in _ 1000 (by omega)
        refine ⟨left, (((x2 * x2 + 40692 * x2 + (i : Int) + 3).fmod 2147483587).fdiv 16).fmod 1000, some (.int ((x2 * x2 + 40692 * x2 + (i : Int) + 3).fmod 2147483587)), hl, hfig, ?_⟩
        simp only [bodyF, b6]
        have hcc : (big && decide (0 < left)) = false := by
          cases big with
          | false => rfl
          | true => simp at hc; simp; omega
        cases big with
        | false => simp [bmT_end, bm_append_end _ _ hlim, dv, dv16, m1, m2, hx1, m3, m4, hx2, m5, m6]
        | true =>
          have hl0 : ¬ 0 < left := by simpa using hcc
          simp [hl0, bmT_end, bm_append_end _ _ hlim, dv, dv16, m1, m2, hx1, m3, m4, hx2, m5, m6]
    obtain ⟨left', a, x1, h1, h2, h3⟩ := step
    obtain ⟨l2, acc2, k2, x2, g1, g2, g3⟩ := draws_loop p a0 a1 seed big n hn m (i + 1) left' (acc ++ [a]) (some (.int i)) x1 (by omega) h1 (by simp [ha]) (by
      intro b hb
      rcases List.mem_append.mp hb with hb | hb
      · exact hf b hb
      · have : b = a := by simpa using hb
        rw [this]; exact h2)
    have e2 : ((i + 1 : Nat) : Int) = (i : Int) + 1 := by omega
    rw [e2] at g3
    exact ⟨l2, acc2, k2, x2, g1, g2, by rw [h3]; exact g3⟩
theorem frz_end (xs : List D) (h : ∀ x ∈ xs, ∀ (k : Nat) (s : St), frz k x s = some (x, s)) : frz 6 (.ref st.length) (st ++ [.lst xs]) = some (.lst xs, st ++ [.dead]) := by
  have go : ∀ (k : Nat) (xs : List D) (s : St), (∀ x ∈ xs, ∀ (k : Nat) (s : St), frz k x s = some (x, s)) → frzs k xs s = some (xs, s) := by
    intro k xs
    induction xs with
    | nil => intro s _; unfold frzs; rfl
    | cons x xs ih =>
      intro s h
      unfold frzs
      rw [h x List.mem_cons_self]
      dsimp only
      rw [ih s fun y hy => h y (List.mem_cons_of_mem _ hy)]
  unfold frz
  simp [go _ xs _ h]
theorem frz_int (i : Int) (k : Nat) (s : St) : frz k (.int i) s = some (.int i, s) := by unfold frz; rfl
theorem ev_draws (cell : Int) (n : Nat) (hn : n ≤ 100) : ∃ ds : List Int, ds.length = n ∧ (∀ a ∈ ds, Fig a) ∧ callF pk.pg chkC fuel (d + 1) 6 [.int cell, .int n] st = .ok (.lst (ds.map D.int)) st := by
  rw [call_eq 6 f6 rfl _ [.int cell, .int n] rfl]
  unfold runF f6 b6
  have e : ∀ z : Int, (if z < 0 then -z else z) = (z.natAbs : Int) := fun z => by split <;> omega
  obtain ⟨l1, ds, k1, x1, h1, h2, h3⟩ := draws_loop (st := st) (c := cfgOf pk.pg fuel (callF pk.pg chkC fuel d)) (tgP b6 4) (.int cell) (.int n) (cell.natAbs : Int) (decide ((1000000000000000000 : Int) ≤ (cell.natAbs : Int))) n hn n 0 (cell.natAbs : Int) [] none none (by omega) (by omega) rfl (fun a ha => by cases ha)
  simp only [bodyF, b6, tgP, show ((0 : Nat) : Int) = 0 from rfl, List.map_nil] at h3
  refine ⟨ds, h1, h2, ?_⟩
  have hsm : small n := by unfold small; omega
  have hpow : binD .pow false (.int 10) (.int 18) st = .ok (.int 1000000000000000000) st := by
    unfold binD
    rfl
  have hf := frz_end (st := st) (ds.map D.int) (by
    intro x hx k s
    obtain ⟨i, _, rfl⟩ := List.mem_map.mp hx
    exact frz_int i k s)
  have hnr : nrs (ds.map D.int) = true := nrs_map _ nr_int _
  simp [e, hpow, hsm, h3, frzS, hf, hnr]
end W86
set_option linter.all false
set_option maxRecDepth 100000
set_option maxHeartbeats 1000000
/-! W8: the law's linear programs: the matrix. -/
namespace W86
open PySem MP I86
variable {fuel d : Nat} {st : St}
theorem compL_ix {body : D → St → Res (Option D)} {R : Nat → Rat → Prop} {n : Nat} (h : ∀ j : Nat, j < n → ∃ q, R j q ∧ body (.int j) st = .ok (some (qD q)) st) :
    ∀ (m i : Nat) (acc : List D), i + m = n → ∃ l : List Rat, l.length = m ∧ (∀ j (hj : j < l.length), R (i + j) l[j]) ∧ compL body (rangeL i n) acc st = .ok (acc ++ l.map qD) st
  | 0, i, acc, hi => by
    rw [range_nil _ _ (by omega)]
    exact ⟨[], rfl, (fun j hj => absurd hj (by simp)), (by unfold compL; simp)⟩
  | m + 1, i, acc, hi => by
    rw [range_cons _ _ (by omega)]
    obtain ⟨q, hq, hb⟩ := h i (by omega)
    obtain ⟨l, h1, h2, h3⟩ := compL_ix h m (i + 1) (acc ++ [qD q]) (by omega)
    refine ⟨q :: l, by simp [h1], fun j hj => ?_, ?_⟩
    · cases j with
      | zero => simpa using hq
      | succ j =>
        have := h2 j (by simpa using hj)
        have e : i + 1 + j = i + (j + 1) := by omega
        rw [e] at this
        simpa using this
    · unfold compL
      rw [hb]
      have e2 : ((i + 1 : Nat) : Int) = (i : Int) + 1 := by omega
      rw [e2] at h3
      dsimp only
      rw [h3]
      simp
theorem compL_ix0 {body : D → St → Res (Option D)} {R : Nat → Rat → Prop} {n : Nat} (h : ∀ j : Nat, j < n → ∃ q, R j q ∧ body (.int j) st = .ok (some (qD q)) st) :
    ∃ l : List Rat, l.length = n ∧ (∀ j (hj : j < l.length), R j l[j]) ∧ compL body (rangeL 0 n) [] st = .ok (l.map qD) st := by
  obtain ⟨l, h1, h2, h3⟩ := compL_ix h n 0 [] (by omega)
  exact ⟨l, h1, fun j hj => by simpa using h2 j hj, by simpa using h3⟩
/-- drawn figures -/
def figsD (ds : List Int) : D := .lst (ds.map D.int)
@[simp] theorem getV_figs (ds : List Int) (env : En) : getV (some (figsD ds) :: env) 0 = some (figsD ds) := id rfl
theorem idx_figs (ds : List Int) (k : Nat) (h : k < ds.length) : idxD st (figsD ds) (.int k) = some (.int ds[k]) := by
  unfold figsD
  rw [idx_lst _ k (by simpa using h)]
  simp
def facL : List Rat := [0, 1, -1, 2, 0, -2, Rat.divInt 1 2, 3, Rat.divInt (-1) 3]
def linesD (ls : List (List Rat)) : D := .lst (ls.map fun l => .lst (l.map qD))
@[simp] theorem getV_lines (ls : List (List Rat)) (env : En) : getV (some (linesD ls) :: env) 0 = some (linesD ls) := id rfl
theorem sm_of (q : Rat) (h : Bd 60 q.num) (h' : Bd 60 q.den) : Sm q := ⟨h, h'⟩
/-- six times it is an integer -/
def Six (q : Rat) : Prop := ∃ i : Int, (6 : Rat) * q = (i : Rat)
def Gq (B : Nat) (q : Rat) : Prop := Sz B q ∧ Six q
theorem six_of {q : Rat} (h : ((6 : Rat) * q).den = 1) : Six q := ⟨((6 : Rat) * q).num, Rat.ext rfl h⟩
theorem facL_sm : ∀ q ∈ facL, Gq 3 q := by
  intro q hq
  simp only [facL, List.mem_cons, List.not_mem_nil, or_false] at hq
  rcases hq with rfl | rfl | rfl | rfl | rfl | rfl | rfl | rfl | rfl <;> exact ⟨⟨by unfold Bd; decide +kernel, by unfold Bd; decide +kernel⟩, six_of (by decide +kernel)⟩
theorem facL_qD : facL.map qD = [.tup [.int 0, .int 1], .tup [.int 1, .int 1], .tup [.int (-1), .int 1], .tup [.int 2, .int 1], .tup [.int 0, .int 1], .tup [.int (-2), .int 1], .tup [.int 1, .int 2], .tup [.int 3, .int 1], .tup [.int (-1), .int 3]] := by
  have e1 : (Rat.divInt 1 2).num = 1 := by decide +kernel
  have e2 : (Rat.divInt 1 2).den = 2 := by decide +kernel
  have e3 : (Rat.divInt (-1) 3).num = -1 := by decide +kernel
  have e4 : (Rat.divInt (-1) 3).den = 3 := by decide +kernel
  simp [facL, qD, e1, e2, e3, e4]
theorem atI_fmod (k : Int) (xs : List D) (n : Nat) (hn : xs.length = n) (h0 : 0 ≤ k) (h : k < n) : ∃ j, k = (j : Nat) ∧ j < xs.length := ⟨k.toNat, by omega, by omega⟩
/-- a drawn factor -/
theorem fac_at (i : Int) : ∃ q ∈ facL, idxD st (.lst (facL.map qD)) (.int (i.fmod 9)) = some (qD q) := by
  obtain ⟨h0, h1⟩ := fmod_in i 9 (by omega)
  have hl : facL.length = 9 := rfl
  obtain ⟨j, hj⟩ : ∃ j : Nat, i.fmod 9 = j := ⟨(i.fmod 9).toNat, by omega⟩
  have hj9 : j < facL.length := by omega
  refine ⟨facL[j], List.getElem_mem hj9, ?_⟩
  rw [hj, idx_lst _ j (by simpa using hj9)]
  simp
theorem nr_line (l : List Rat) : nr (D.lst (l.map qD)) = true := by simp [nrs_map qD nr_qD]
theorem frz_line (l : List Rat) (k : Nat) (s : St) : frz k (.lst (l.map qD)) s = some (.lst (l.map qD), s) := by unfold frz; rfl
theorem matrix_loop {c : Cfg} {n cnt : Nat} {ds : List Int} (hn : n ≤ 5) (hc : cnt ≤ 5) (hd : n * cnt ≤ ds.length) (a1 : D) : ∀ (m i : Nat) (acc : List (List Rat)) (k0 : Option D), i + m = cnt → acc.length = i → (∀ l ∈ acc, l.length = n ∧ ∀ q ∈ l, Gq 3 q) →
    ∃ (acc' : List (List Rat)) (k1 : Option D), acc'.length = cnt ∧ (∀ l ∈ acc', l.length = n ∧ ∀ q ∈ l, Gq 3 q) ∧ forL (stepB c lt20_0 lb20_0) (rangeL i cnt) [some (.int n), some a1, some (figsD ds), some (.lst (facL.map qD)), some (.ref st.length), k0, none] (st ++ [.lst (acc.map fun l => .lst (l.map qD))]) =
      .next [some (.int n), some a1, some (figsD ds), some (.lst (facL.map qD)), some (.ref st.length), k1, none] (st ++ [.lst (acc'.map fun l => .lst (l.map qD))])
  | 0, i, acc, k0, hi, ha, hf => by
    rw [range_nil _ _ (by omega)]
    exact ⟨acc, k0, by omega, hf, by unfold forL; rfl⟩
  | m + 1, i, acc, k0, hi, ha, hf => by
    rw [range_cons _ _ (by omega)]
    unfold forL
    have hbig : i * n + n ≤ n * cnt := by
      have : (i + 1) * n ≤ cnt * n := Nat.mul_le_mul_right _ (by omega)
      rw [Nat.add_mul, Nat.one_mul, Nat.mul_comm cnt n] at this
      exact this
    have hin : i * n ≤ 25 := by
      have : i * n ≤ 5 * 5 := Nat.mul_le_mul (by omega) hn
      omega
    have m1 : MP.MulOk (i : Int) (n : Int) := Bd.mulOk (B := 40) (C := 40) (bd_of (by omega) (by omega)) (bd_of (by omega) (by omega)) (by omega)
    obtain ⟨l, h1, h2, h3⟩ := compL_ix0 (st := st ++ [.lst (acc.map fun l => .lst (l.map qD))]) (R := fun _ q => Gq 3 q) (n := n) (body := turnB c [6] ce20_0 ct20_0 .nil [some (.int n), some a1, some (figsD ds), some (.lst (facL.map qD)), some (.ref st.length), some (.int i), none]) (by
      intro j hj
      obtain ⟨q, hq, he⟩ := fac_at (st := st ++ [.lst (acc.map fun l => .lst (l.map qD))]) (ds[i * n + j]'(by omega))
      refine ⟨q, facL_sm q hq, ?_⟩
      have hx := idx_figs (st := st ++ [.lst (acc.map fun l => .lst (l.map qD))]) ds (i * n + j) (by omega)
      have e : ((i * n + j : Nat) : Int) = (i : Int) * (n : Int) + (j : Int) := by simp
      rw [e] at hx
      unfold ct20_0
      rw [turn_name]
      simp [ce20_0, m1, hx, he])
    have hlim : (acc.map fun l => D.lst (l.map qD)).length < lim := by
      rw [List.length_map, ha]; unfold lim; omega
    have step : stepB c lt20_0 lb20_0 (.int i) [some (.int n), some a1, some (figsD ds), some (.lst (facL.map qD)), some (.ref st.length), k0, none] (st ++ [.lst (acc.map fun l => .lst (l.map qD))]) =
        .next [some (.int n), some a1, some (figsD ds), some (.lst (facL.map qD)), some (.ref st.length), some (.int i), none] (st ++ [.lst ((acc ++ [l]).map fun l => .lst (l.map qD))]) := by
      unfold ce20_0 ct20_0 at h3
      unfold lt20_0 lb20_0
      have hs : small n := by unfold small; omega
      simp [bmT_end, hs, h3, bm_append_end _ _ hlim]
    obtain ⟨acc2, k2, g1, g2, g3⟩ := matrix_loop hn hc hd a1 m (i + 1) (acc ++ [l]) (some (.int i)) (by omega) (by simp [ha]) (by
      intro b hb
      rcases List.mem_append.mp hb with hb | hb
      · exact hf b hb
      · have : b = l := by simpa using hb
        rw [this]
        refine ⟨h1, fun q hq => ?_⟩
        obtain ⟨j, hj, rfl⟩ := List.mem_iff_getElem.mp hq
        exact h2 j hj)
    have e2 : ((i + 1 : Nat) : Int) = (i : Int) + 1 := by omega
    rw [e2] at g3
    exact ⟨acc2, k2, g1, g2, by rw [step]; exact g3⟩
theorem ev_matrix {n cnt : Nat} {ds : List Int} (hn : n ≤ 5) (hc : cnt ≤ 5) (hd : n * cnt ≤ ds.length) : ∃ ls : List (List Rat), ls.length = cnt ∧ (∀ l ∈ ls, l.length = n ∧ ∀ q ∈ l, Gq 3 q) ∧ callF pk.pg chkC fuel (d + 1) 20 [.int n, .int cnt, figsD ds] st = .ok (linesD ls) st := by
  obtain ⟨ls, k1, h1, h2, h3⟩ := matrix_loop (st := st) (c := cfgOf pk.pg fuel (callF pk.pg chkC fuel d)) hn hc hd (.int cnt) cnt 0 [] none (by omega) rfl (fun l hl => by cases hl)
  refine ⟨ls, h1, h2, ?_⟩
  rw [call_eq 20 f20 rfl _ [.int n, .int cnt, figsD ds] rfl]
  unfold runF f20 b20
  unfold lt20_0 lb20_0 at h3
  simp only [show ((0 : Nat) : Int) = 0 from rfl, List.map_nil] at h3
  rw [facL_qD] at h3
  have hs : small cnt := by unfold small; omega
  have hf := frz_end (st := st) (ls.map fun l => D.lst (l.map qD)) (by
    intro x hx k s
    obtain ⟨l, _, rfl⟩ := List.mem_map.mp hx
    exact frz_line l k s)
  have hnr : nrs (ls.map fun l => D.lst (l.map qD)) = true := nrs_map _ nr_line _
  simp [hs, h3, frzS, hf, hnr, linesD]
end W86
set_option linter.all false
set_option maxRecDepth 100000
set_option maxHeartbeats 1000000
/-! W9: drawn numbers. -/
namespace W86
open PySem MP I86
variable {fuel d : Nat} {st : St}
theorem idx_lines (ls : List (List Rat)) (k : Nat) (h : k < ls.length) : idxD st (linesD ls) (.int k) = some (.lst (ls[k].map qD)) := by
  unfold linesD
  rw [idx_lst _ k (by simpa using h)]
  simp
@[simp] theorem len_lines (ls : List (List Rat)) (m : Bool) : biD .len m [linesD ls] st = .ok (.int ls.length) st := by simp [linesD]
/-- the drawn ratio a % 11 - 4 over 1 + a // 11 % 3 -/
theorem six_div {a b : Int} (hb : 1 ≤ b) (hb3 : b ≤ 3) : Six (Rat.divInt a b) := by
  have hbq : ((b : Int) : Rat) ≠ 0 := by
    intro z
    have : b = 0 := by exact_mod_cast z
    omega
  rcases (show b = 1 ∨ b = 2 ∨ b = 3 by omega) with h | h | h <;> subst h
  · exact ⟨6 * a, by rw [Rat.divInt_eq_div, Rat.intCast_mul]; have : ((6 : Int) : Rat) = 6 := rfl; have h1 : ((1 : Int) : Rat) = 1 := rfl; rw [this, h1]; grind⟩
  · exact ⟨3 * a, by rw [Rat.divInt_eq_div, Rat.intCast_mul]; have : ((3 : Int) : Rat) = 3 := rfl; have h1 : ((2 : Int) : Rat) = 2 := rfl; rw [this, h1]; grind⟩
  · exact ⟨2 * a, by rw [Rat.divInt_eq_div, Rat.intCast_mul]; have : ((2 : Int) : Rat) = 2 := rfl; have h1 : ((3 : Int) : Rat) = 3 := rfl; rw [this, h1]; grind⟩
theorem drawn_ratio (a : Int) : ∃ q, Gq 4 q ∧ callF pk.pg chkC fuel (d + 2) 8 [.int (a.fmod 11 - 4), .int (1 + (a.fdiv 11).fmod 3)] st = .ok (qD q) st := by
  obtain ⟨h0, h1⟩ := fmod_in a 11 (by omega)
  obtain ⟨g0, g1⟩ := fmod_in (a.fdiv 11) 3 (by omega)
  have hb : Bd 4 (1 + (a.fdiv 11).fmod 3) := bd_of (by omega) (by omega)
  have ha : Bd 4 (a.fmod 11 - 4) := by
    unfold Bd
    omega
  exact ⟨_, ⟨sz_divInt (by omega) ha hb, six_div (by omega) (by omega)⟩, ev_lratio (B := 4) _ _ (by omega) hb (by omega)⟩
theorem frz_rowD (r : Row) (k : Nat) (s : St) : frz k (rowD r) s = some (rowD r, s) := by unfold rowD frz; rfl
theorem frz_qD (r : Rat) (k : Nat) (s : St) : frz k (qD r) s = some (qD r, s) := by unfold qD frz; rfl
theorem numbers_loop {n : Nat} {ls : List (List Rat)} {ds : List Int} (hl : ls.length ≤ 5) (hd : 40 ≤ ds.length) (a0 a3 : D) (h3 : ∀ env, getV (some a3 :: env) 0 = some a3) : ∀ (m i : Nat) (acc : List Row) (k0 : Option D), i + m = ls.length → acc.length = i → (∀ r ∈ acc, r.1 ∈ ls ∧ Gq 4 r.2) →
    ∃ (acc' : List Row) (k1 : Option D), acc'.length = ls.length ∧ (∀ r ∈ acc', r.1 ∈ ls ∧ Gq 4 r.2) ∧ forL (stepB (cfgOf pk.pg fuel (callF pk.pg chkC fuel (d + 2))) lt22_0 lb22_0) (rangeL i ls.length) [some a0, some (linesD ls), some (figsD ds), some a3, some (.ref st.length), k0, none] (st ++ [.lst (acc.map rowD)]) =
      .next [some a0, some (linesD ls), some (figsD ds), some a3, some (.ref st.length), k1, none] (st ++ [.lst (acc'.map rowD)])
  | 0, i, acc, k0, hi, ha, hf => by
    rw [range_nil _ _ (by omega)]
    exact ⟨acc, k0, by omega, hf, by unfold forL; rfl⟩
  | m + 1, i, acc, k0, hi, ha, hf => by
    rw [range_cons _ _ (by omega)]
    unfold forL
    have h1 : i < ls.length := by omega
    have hlim : (acc.map rowD).length < lim := by
      rw [List.length_map, ha]; unfold lim; omega
    obtain ⟨q, hq, hc⟩ := drawn_ratio (fuel := fuel) (d := d) (st := st ++ [.lst (acc.map rowD)]) (ds[10 + i]'(by omega))
    have hx := idx_figs (st := st ++ [.lst (acc.map rowD)]) ds (10 + i) (by omega)
    have e : ((10 + i : Nat) : Int) = 10 + (i : Int) := by simp
    rw [e] at hx
    have hy := idx_lines (st := st ++ [.lst (acc.map rowD)]) ls i h1
    have dv : DivOk 11 := by decide
    have step : stepB (cfgOf pk.pg fuel (callF pk.pg chkC fuel (d + 2))) lt22_0 lb22_0 (.int i) [some a0, some (linesD ls), some (figsD ds), some a3, some (.ref st.length), k0, none] (st ++ [.lst (acc.map rowD)]) =
        .next [some a0, some (linesD ls), some (figsD ds), some a3, some (.ref st.length), some (.int i), none] (st ++ [.lst ((acc ++ [(ls[i], q)]).map rowD)]) := by
      unfold lt22_0 lb22_0
      have e2 : D.tup [.lst (ls[i].map qD), qD q] = rowD (ls[i], q) := rfl
      simp [bmT_end, hx, hy, dv, hc, e2, bm_append_end _ _ hlim]
    obtain ⟨acc2, k2, g1, g2, g3⟩ := numbers_loop (n := n) hl hd a0 a3 h3 m (i + 1) (acc ++ [(ls[i], q)]) (some (.int i)) (by omega) (by simp [ha]) (by
      intro b hb
      rcases List.mem_append.mp hb with hb | hb
      · exact hf b hb
      · have : b = (ls[i], q) := by simpa using hb
        rw [this]
        exact ⟨List.getElem_mem h1, hq⟩)
    have e2 : ((i + 1 : Nat) : Int) = (i : Int) + 1 := by omega
    rw [e2] at g3
    exact ⟨acc2, k2, g1, g2, by rw [step]; exact g3⟩
/-- costs and rows -/
def worldD (cs : List Rat) (rs : List Row) : D := .lst [.lst (cs.map qD), rowsD rs]
theorem ev_numbers {n : Nat} {ls : List (List Rat)} {ds : List Int} (hn : n ≤ 5) (hl : ls.length ≤ 5) (hd : ds.length = 40) : ∃ (cs : List Rat) (rs : List Row), cs.length = n ∧ rs.length = ls.length ∧ (∀ c ∈ cs, Gq 4 c) ∧ (∀ r ∈ rs, r.1 ∈ ls ∧ Gq 4 r.2) ∧
    callF pk.pg chkC fuel (d + 3) 22 [.int n, linesD ls, figsD ds] st = .ok (worldD cs rs) st := by
  obtain ⟨cs, c1, c2, c3⟩ := compL_ix0 (st := st) (R := fun _ q => Gq 4 q) (n := n) (body := turnB (cfgOf pk.pg fuel (callF pk.pg chkC fuel (d + 2))) [6] ce22_0 ct22_0 .nil [some (.int n), some (linesD ls), some (figsD ds), none, none, none, none]) (by
    intro j hj
    obtain ⟨q, hq, hc⟩ := drawn_ratio (fuel := fuel) (d := d) (st := st) (ds[j]'(by omega))
    have hx := idx_figs (st := st) ds j (by omega)
    have dv : DivOk 11 := by decide
    refine ⟨q, hq, ?_⟩
    unfold ct22_0
    rw [turn_name]
    simp [ce22_0, hx, dv, hc])
  obtain ⟨rs, k1, r1, r2, r3⟩ := numbers_loop (n := n) (ds := ds) (fuel := fuel) (d := d) (st := st) hl (by omega) (.int n) (.lst (cs.map qD)) (fun _ => rfl) ls.length 0 [] none (by omega) rfl (fun l hl => by cases hl)
  refine ⟨cs, rs, c1, r1, fun c hc => ?_, r2, ?_⟩
  · obtain ⟨j, hj, rfl⟩ := List.mem_iff_getElem.mp hc
    exact c2 j hj
  · rw [call_eq 22 f22 rfl _ [.int n, linesD ls, figsD ds] rfl]
    unfold runF f22 b22
    unfold lt22_0 lb22_0 at r3
    unfold ce22_0 ct22_0 at c3
    simp only [show ((0 : Nat) : Int) = 0 from rfl, List.map_nil] at r3
    have hs : small n := by unfold small; omega
    have hs2 : small ls.length := by unfold small; omega
    have hf := frz_end (st := st) (rs.map rowD) (by
      intro x hx k s
      obtain ⟨r, _, rfl⟩ := List.mem_map.mp hx
      exact frz_rowD r k s)
    have hnr : nrs (rs.map rowD) = true := nrs_map _ nr_rowD _
    have hnr2 : nrs (cs.map qD) = true := nrs_map _ nr_qD _
    simp [hs, hs2, c3, r3, frzS, hf, hnr, hnr2, worldD, rowsD]
end W86
set_option linter.all false
set_option maxRecDepth 100000
set_option maxHeartbeats 1000000
/-! W10: sums, weak duality. -/
namespace W86
open PySem MP I86
theorem dotR_nil (xs : List Rat) : dotR xs [] = 0 := by cases xs <;> rfl
theorem dotR_nil' (xs : List Rat) : dotR [] xs = 0 := by cases xs <;> rfl
theorem dotR_cons (a b : Rat) (as bs : List Rat) : dotR (a :: as) (b :: bs) = a * b + dotR as bs := rfl
theorem dotR_comm : ∀ xs ys : List Rat, dotR xs ys = dotR ys xs
  | [], ys => by rw [dotR_nil', dotR_nil]
  | x :: xs, [] => by rw [dotR_nil', dotR_nil]
  | x :: xs, y :: ys => by rw [dotR_cons, dotR_cons, dotR_comm xs ys, Rat.mul_comm]
theorem dot_addRow (p : Rat) : ∀ (as l xs : List Rat), as.length = l.length → dotR (addRow p as l) xs = dotR as xs + p * dotR l xs
  | [], [], xs, _ => by
    unfold addRow
    rw [dotR_nil']; grind
  | [], _ :: _, xs, h => by cases h
  | _ :: _, [], xs, h => by cases h
  | a :: as, x :: l, [], h => by
    rw [dotR_nil, dotR_nil, dotR_nil]; grind
  | a :: as, x :: l, y :: xs, h => by
    have ih := dot_addRow p as l xs (by simpa using h)
    have e : addRow p (a :: as) (x :: l) = (a + p * x) :: addRow p as l := rfl
    rw [e, dotR_cons, dotR_cons, dotR_cons, ih]
    grind
theorem dot_sums : ∀ (rs : List Row) (ys acc xs : List Rat), (∀ r ∈ rs, r.1.length = acc.length) → dotR (sumsFrom acc rs ys) xs = dotR acc xs + dotR ys (rs.map fun r => dotR r.1 xs)
  | [], ys, acc, xs, _ => by
    have e : sumsFrom acc [] ys = acc := by cases ys <;> rfl
    rw [e, List.map_nil, dotR_nil]; grind
  | r :: rs, [], acc, xs, _ => by
    have e : sumsFrom acc (r :: rs) [] = acc := rfl
    rw [e, dotR_nil']; grind
  | r :: rs, y :: ys, acc, xs, h => by
    have e : sumsFrom acc (r :: rs) (y :: ys) = sumsFrom (addRow y acc r.1) rs ys := rfl
    have hr := h r List.mem_cons_self
    rw [e, dot_sums rs ys _ xs (fun r' hr' => by rw [addRow_length]; exact h r' (List.mem_cons_of_mem _ hr')), dot_addRow y acc r.1 xs hr.symm, List.map_cons, dotR_cons]
    grind
theorem dot_zeros : ∀ (n : Nat) (xs : List Rat), dotR (List.replicate n 0) xs = 0
  | 0, xs => dotR_nil' xs
  | n + 1, [] => dotR_nil _
  | n + 1, x :: xs => by
    rw [List.replicate_succ, dotR_cons, dot_zeros n xs]; grind
theorem dot_le : ∀ (xs as bs : List Rat), (∀ x ∈ xs, 0 ≤ x) → as.length = bs.length → (∀ j (h : j < as.length) (h' : j < bs.length), as[j] ≤ bs[j]) → dotR as xs ≤ dotR bs xs
  | [], as, bs, _, _, _ => by rw [dotR_nil, dotR_nil]; exact Rat.le_refl
  | x :: xs, [], [], _, _, _ => by rw [dotR_nil']; exact Rat.le_refl
  | x :: xs, [], _ :: _, _, h, _ => by cases h
  | x :: xs, _ :: _, [], _, h, _ => by cases h
  | x :: xs, a :: as, b :: bs, h0, hl, h => by
    have ih := dot_le xs as bs (fun y hy => h0 y (List.mem_cons_of_mem _ hy)) (by simpa using hl) fun j h1 h2 => by
      have := h (j + 1) (by simpa using h1) (by simpa using h2)
      simpa using this
    have hab : a ≤ b := h 0 (by simp) (by simp)
    have hx : 0 ≤ x := h0 x List.mem_cons_self
    rw [dotR_cons, dotR_cons]
    have := Rat.mul_le_mul_of_nonneg_right hab hx
    grind
/-- sum of the rows' bounds by the prices -/
theorem weak {cs xs ys : List Rat} {rs : List Row} (hw : ∀ r ∈ rs, r.1.length = cs.length) (hx0 : ∀ x ∈ xs, 0 ≤ x) (hy0 : ∀ y ∈ ys, 0 ≤ y) (hrow : ∀ r ∈ rs, r.2 ≤ dotR r.1 xs)
    (hle : ∀ j (h : j < cs.length) (h' : j < (sumsFrom (List.replicate cs.length 0) rs ys).length), (sumsFrom (List.replicate cs.length 0) rs ys)[j] ≤ cs[j]) : dotR ys (bnds rs) ≤ dotR cs xs := by
  have h1 : dotR ys (bnds rs) ≤ dotR ys (rs.map fun r => dotR r.1 xs) := by
    rw [dotR_comm ys, dotR_comm ys]
    refine dot_le ys _ _ hy0 (by simp [bnds]) fun j h h' => ?_
    simp only [bnds, List.getElem_map]
    exact hrow _ (List.getElem_mem _)
  have h2 := dot_sums rs ys (List.replicate cs.length 0) xs (fun r hr => by rw [List.length_replicate]; exact hw r hr)
  rw [dot_zeros] at h2
  have h3 : dotR (sumsFrom (List.replicate cs.length 0) rs ys) xs ≤ dotR cs xs := dot_le xs _ _ hx0 (by rw [sumsFrom_length, List.length_replicate]) fun j h h' => hle j h' h
  rw [h2] at h3
  have h4 : dotR ys (rs.map fun r => dotR r.1 xs) ≤ dotR cs xs := by
    have e : (0 : Rat) + dotR ys (rs.map fun r => dotR r.1 xs) = dotR ys (rs.map fun r => dotR r.1 xs) := Rat.zero_add _
    rw [← e]; exact h3
  exact Rat.le_trans h1 h4
end W86
set_option linter.all false
set_option maxRecDepth 100000
set_option maxHeartbeats 1000000
/-! W11: rows of integers. -/
namespace W86
open PySem MP I86
variable {fuel d : Nat} {st : St}
def intsL (r : List Int) : D := .lst (r.map D.int)
/-- gcd of the entries -/
def gcdL : List Int → Nat
  | [] => 0
  | a :: r => Nat.gcd a.natAbs (gcdL r)
/-- the row without the common part -/
def mlow (r : List Int) : List Int := r.map fun a => a / (gcdL r : Int)
theorem gcdL_dvd : ∀ (r : List Int) (a : Int), a ∈ r → ((gcdL r : Nat) : Int) ∣ a
  | b :: r, a, h => by
    have e : gcdL (b :: r) = Nat.gcd b.natAbs (gcdL r) := rfl
    rcases List.mem_cons.mp h with rfl | h
    · have h1 : gcdL (a :: r) ∣ a.natAbs := by rw [e]; exact Nat.gcd_dvd_left ..
      exact Int.ofNat_dvd_left.mpr h1
    · have h1 : gcdL (b :: r) ∣ gcdL r := by rw [e]; exact Nat.gcd_dvd_right ..
      exact Int.dvd_trans (Int.natCast_dvd_natCast.mpr h1) (gcdL_dvd r a h)
/-- the loop: the part so far, and whether it ends early -/
def lowF : List Int → Nat → Option Nat
  | [], g => some g
  | a :: r, g => if Nat.gcd g a.natAbs = 1 then none else lowF r (Nat.gcd g a.natAbs)
theorem lowF_none : ∀ (r : List Int) (g : Nat), lowF r g = none → Nat.gcd g (gcdL r) = 1
  | [], g, h => by cases h
  | a :: r, g, h => by
    unfold lowF at h
    have e : gcdL (a :: r) = Nat.gcd a.natAbs (gcdL r) := rfl
    rw [e, ← Nat.gcd_assoc]
    by_cases h1 : Nat.gcd g a.natAbs = 1
    · rw [h1, Nat.gcd_one_left]
    · rw [if_neg h1] at h
      exact lowF_none r _ h
theorem lowF_some : ∀ (r : List Int) (g p : Nat), lowF r g = some p → p = Nat.gcd g (gcdL r)
  | [], g, p, h => by
    unfold lowF at h
    cases h
    show g = Nat.gcd g 0
    rw [Nat.gcd_zero_right]
  | a :: r, g, p, h => by
    unfold lowF at h
    have e : gcdL (a :: r) = Nat.gcd a.natAbs (gcdL r) := rfl
    by_cases h1 : Nat.gcd g a.natAbs = 1
    · rw [if_pos h1] at h; cases h
    · rw [if_neg h1] at h
      rw [e, ← Nat.gcd_assoc]
      exact lowF_some r _ p h
theorem low_loop {c : Cfg} (x : D) (hx : ∀ env, getV (some x :: env) 0 = some x) : ∀ (r : List Int) (g : Nat) (k0 : Option D),
    (lowF r g = none → forL (stepB c lt2_0 lb2_0) (r.map D.int) [some x, some (.int g), k0] st = .ret x st) ∧
      ∀ p, lowF r g = some p → ∃ k1, forL (stepB c lt2_0 lb2_0) (r.map D.int) [some x, some (.int g), k0] st = .next [some x, some (.int p), k1] st
  | [], g, k0 => by
    refine ⟨fun h => (by cases h), fun p h => ?_⟩
    unfold lowF at h
    cases h
    exact ⟨k0, by unfold forL; rfl⟩
  | a :: r, g, k0 => by
    obtain ⟨i1, i2⟩ := low_loop x hx r (Nat.gcd g a.natAbs) (some (.int a))
    by_cases h1 : Nat.gcd g a.natAbs = 1
    · have step : stepB c lt2_0 lb2_0 (.int a) [some x, some (.int g), k0] st = .ret x st := by
        unfold lt2_0 lb2_0
        simp [h1, hx]
      refine ⟨fun _ => ?_, fun p h => ?_⟩
      · rw [List.map_cons]
        unfold forL
        rw [step]
      · unfold lowF at h
        rw [if_pos h1] at h; cases h
    · have h2 : ¬ (((Nat.gcd g a.natAbs : Nat) : Int) = 1) := by omega
      have step : stepB c lt2_0 lb2_0 (.int a) [some x, some (.int g), k0] st = .next [some x, some (.int (Nat.gcd g a.natAbs : Nat)), some (.int a)] st := by
        unfold lt2_0 lb2_0
        simp [h2, hx]
      unfold lowF
      rw [if_neg h1, List.map_cons]
      refine ⟨fun h => ?_, fun p h => ?_⟩
      · unfold forL
        rw [step]
        exact i1 h
      · obtain ⟨k1, h3⟩ := i2 p h
        refine ⟨k1, ?_⟩
        unfold forL
        rw [step]
        exact h3
/-- a frozen row's lowest form -/
theorem ev_lowest (r : List Int) {B : Nat} (hB : B < 9000) (hb : ∃ a ∈ r, a ≠ 0 ∧ Bd B a) : callF pk.pg chkC fuel (d + 1) 2 [intsL r] st = .ok (intsL (mlow r)) st := by
  rw [call_eq 2 f2 rfl _ [intsL r] rfl]
  unfold runF f2 b2
  obtain ⟨i1, i2⟩ := low_loop (st := st) (c := cfgOf pk.pg fuel (callF pk.pg chkC fuel d)) (intsL r) (fun _ => rfl) r 0 none
  unfold lt2_0 lb2_0 at i1 i2
  have ew : wkD st (intsL r) = some (.items (r.map D.int)) := rfl
  have eg : ∀ env, getV (some (intsL r) :: env) 0 = some (intsL r) := fun _ => rfl
  cases q : lowF r 0 with
  | none =>
    have h1 := lowF_none r 0 q
    rw [Nat.gcd_zero_left] at h1
    have e : mlow r = r := by
      unfold mlow
      rw [h1]
      simp
    have i1' := i1 q
    simp only [show ((0 : Nat) : Int) = 0 from rfl] at i1'
    simp [ew, eg, i1', e]
  | some p =>
    have h1 := lowF_some r 0 p q
    rw [Nat.gcd_zero_left] at h1
    obtain ⟨k1, h2⟩ := i2 p q
    simp only [show ((0 : Nat) : Int) = 0 from rfl] at h2
    obtain ⟨a, ha, ha0, haB⟩ := hb
    have hdvd := gcdL_dvd r a ha
    have hpos : 0 < gcdL r := by
      rcases Nat.eq_zero_or_pos (gcdL r) with z | z
      · rw [z] at hdvd
        exact absurd (Int.zero_dvd.mp hdvd) ha0
      · exact z
    have hle : gcdL r ≤ a.natAbs := Nat.le_of_dvd (by omega) (Int.ofNat_dvd_left.mp hdvd)
    have dv : DivOk (p : Int) := by
      rw [h1]
      refine ⟨by omega, ?_⟩
      have hb2 : Bd B ((gcdL r : Nat) : Int) := Nat.lt_of_le_of_lt (by simpa using hle) haB
      exact Nat.lt_of_le_of_lt hb2.log hB
    have hc : compL (turnB (cfgOf pk.pg fuel (callF pk.pg chkC fuel d)) [2] ce2_0 ct2_0 .nil [some (intsL r), some (.int p), k1]) (r.map D.int) [] st = .ok ((mlow r).map D.int) st := by
      rw [compL_all (f := fun x => match x with | .int i => .int (i.fdiv p) | x => x) _ (fun x hx => ?_)]
      · congr 1
        unfold mlow
        rw [List.map_map, List.map_map]
        refine List.map_congr_left fun i hi => ?_
        show D.int (i.fdiv p) = D.int (i / (gcdL r : Int))
        rw [h1, fdiv_exact (gcdL_dvd r i hi)]
      · obtain ⟨i, hi, rfl⟩ := List.mem_map.mp hx
        unfold ct2_0
        rw [turn_name]
        simp [ce2_0, dv]
    unfold ce2_0 ct2_0 at hc
    have er : intsL (mlow r) = .lst ((mlow r).map D.int) := rfl
    rw [er]
    simp [ew, eg, h2, hc]
end W86
set_option linter.all false
set_option maxRecDepth 100000
set_option maxHeartbeats 1000000
/-! W12: whole rows; lists of the store. -/
namespace W86
open PySem MP I86
variable {fuel d : Nat} {st : St}
/-- least common multiple of the bottoms, as the program reckons it -/
def lcmF : List Rat → Nat → Nat
  | [], f => f
  | q :: qs, f => lcmF qs (f / Nat.gcd f q.den * q.den)
def wrow (qs : List Rat) : List Int := (lcmF qs 1 : Int) :: qs.map fun q => q.num * ((lcmF qs 1 / q.den : Nat) : Int)
theorem lcmF_pos : ∀ (qs : List Rat) (f : Nat), 0 < f → 0 < lcmF qs f
  | [], f, h => h
  | q :: qs, f, h => by
    unfold lcmF
    refine lcmF_pos qs _ (Nat.mul_pos (Nat.div_pos (Nat.gcd_le_left _ h) (Nat.gcd_pos_of_pos_left _ h)) q.den_pos)
theorem lcmF_dvd0 : ∀ (qs : List Rat) (f : Nat), f ∣ lcmF qs f
  | [], f => Nat.dvd_refl f
  | q :: qs, f => by
    unfold lcmF
    refine Nat.dvd_trans ?_ (lcmF_dvd0 qs _)
    have h1 : f / Nat.gcd f q.den * Nat.gcd f q.den = f := Nat.div_mul_cancel (Nat.gcd_dvd_left ..)
    obtain ⟨c, hc⟩ := Nat.gcd_dvd_right f q.den
    refine ⟨c, ?_⟩
    have e : f / Nat.gcd f q.den * q.den = f / Nat.gcd f q.den * (Nat.gcd f q.den * c) := congrArg (fun z => f / Nat.gcd f q.den * z) hc
    rw [e, ← Nat.mul_assoc, h1]
theorem lcmF_dvd : ∀ (qs : List Rat) (f : Nat) (q : Rat), q ∈ qs → q.den ∣ lcmF qs f
  | r :: qs, f, q, h => by
    unfold lcmF
    rcases List.mem_cons.mp h with rfl | h
    · exact Nat.dvd_trans (Nat.dvd_mul_left ..) (lcmF_dvd0 qs _)
    · exact lcmF_dvd qs _ q h
theorem lcmF_bd {B : Nat} : ∀ (qs : List Rat) (f S : Nat), (∀ q ∈ qs, Sz B q) → f < 2 ^ S → lcmF qs f < 2 ^ (S + qs.length * B)
  | [], f, S, _, h => by simpa [lcmF] using h
  | q :: qs, f, S, hq, h => by
    unfold lcmF
    have h1 : f / Nat.gcd f q.den ≤ f := Nat.div_le_self _ _
    have h2 : q.den < 2 ^ B := by
      have := (hq q List.mem_cons_self).2
      unfold Bd at this
      simpa using this
    have h3 : f / Nat.gcd f q.den * q.den < 2 ^ (S + B) := by
      rw [Nat.pow_add]
      exact Nat.mul_lt_mul'' (by omega) h2
    have := lcmF_bd qs _ (S + B) (fun r hr => hq r (List.mem_cons_of_mem _ hr)) h3
    rw [List.length_cons, Nat.add_mul, Nat.one_mul]
    have e : S + B + qs.length * B = S + (qs.length * B + B) := by omega
    rw [← e]; exact this
theorem nat_fdiv (a b : Nat) : Int.fdiv (a : Int) (b : Int) = ((a / b : Nat) : Int) := by
  rw [Int.fdiv_eq_ediv_of_nonneg _ (by omega)]; simp
theorem lcm_loop {c : Cfg} {B : Nat} (hB : B < 9000) (x : D) : ∀ (qs : List Rat) (f S : Nat) (k0 k1 : Option D), (∀ q ∈ qs, Sz B q) → 0 < f → f < 2 ^ S → S + qs.length * B < 9000 →
    ∃ l0 l1, forL (stepB c lt3_0 lb3_0) (qs.map qD) [some x, some (.int f), k0, k1, none] st = .next [some x, some (.int (lcmF qs f : Nat)), l0, l1, none] st
  | [], f, S, k0, k1, _, _, _, _ => ⟨k0, k1, by unfold forL; rfl⟩
  | q :: qs, f, S, k0, k1, hq, hf, hS, hb => by
    rw [List.length_cons, Nat.add_mul, Nat.one_mul] at hb
    have hq0 := hq q List.mem_cons_self
    have h1 : f / Nat.gcd f q.den ≤ f := Nat.div_le_self _ _
    have h2 : q.den < 2 ^ B := by
      have := hq0.2
      unfold Bd at this
      simpa using this
    have h3 : f / Nat.gcd f q.den * q.den < 2 ^ (S + B) := by
      rw [Nat.pow_add]
      exact Nat.mul_lt_mul'' (by omega) h2
    have hpos : 0 < f / Nat.gcd f q.den * q.den := Nat.mul_pos (Nat.div_pos (Nat.gcd_le_left _ hf) (Nat.gcd_pos_of_pos_left _ hf)) q.den_pos
    obtain ⟨l0, l1, ih⟩ := lcm_loop hB x qs _ (S + B) (some (.int q.num)) (some (.int q.den)) (fun r hr => hq r (List.mem_cons_of_mem _ hr)) hpos h3 (by omega)
    refine ⟨l0, l1, ?_⟩
    have hg : 0 < Nat.gcd f q.den := Nat.gcd_pos_of_pos_left _ hf
    have dv : DivOk ((Nat.gcd f q.den : Nat) : Int) := by
      refine ⟨by omega, ?_⟩
      have : Bd S ((Nat.gcd f q.den : Nat) : Int) := Nat.lt_of_le_of_lt (by simpa using Nat.gcd_le_left _ hf) hS
      exact Nat.lt_of_le_of_lt this.log (by omega)
    have bf : Bd S ((f / Nat.gcd f q.den : Nat) : Int) := by
      unfold Bd
      rw [Int.natAbs_natCast]
      exact Nat.lt_of_le_of_lt h1 hS
    have mo : MP.MulOk ((f : Int) / ((Nat.gcd f q.den : Nat) : Int)) (q.den : Int) := by
      have := Bd.mulOk (B := S) (C := B) bf hq0.2 (by omega)
      rwa [Int.natCast_ediv] at this
    have step : stepB c lt3_0 lb3_0 (qD q) [some x, some (.int f), k0, k1, none] st = .next [some x, some (.int ((f / Nat.gcd f q.den * q.den : Nat) : Int)), some (.int q.num), some (.int q.den), none] st := by
      unfold lt3_0 lb3_0 qD
      rw [stepB_tup rfl]
      simp [dv, mo, nat_fdiv]
    rw [List.map_cons]
    unfold forL
    rw [step]
    exact ih
theorem wrow_ne (qs : List Rat) : ∃ a ∈ wrow qs, a ≠ 0 := ⟨_, List.mem_cons_self, by
  have := lcmF_pos qs 1 (by decide)
  omega⟩
theorem nat_bd {B n : Nat} (h : n < 2 ^ B) : Bd B (n : Int) := by
  unfold Bd
  rw [Int.natAbs_natCast]; exact h
theorem ev_wholeRow {B : Nat} (qs : List Rat) (x : D) (hx : x = .lst (qs.map qD)) (hq : ∀ q ∈ qs, Sz B q) (hb : 1 + qs.length * B < 8000) (hB : B < 9000) (hl : qs.length ≤ 1000) : callF pk.pg chkC fuel (d + 2) 3 [x] st = .ok (intsL (mlow (wrow qs))) st := by
  subst hx
  rw [call_eq 3 f3 rfl _ [.lst (qs.map qD)] rfl]
  unfold runF f3 b3
  have hL := lcmF_bd (B := B) qs 1 1 hq (by decide)
  obtain ⟨l0, l1, h1⟩ := lcm_loop (st := st) (c := cfgOf pk.pg fuel (callF pk.pg chkC fuel (d + 1))) hB (.lst (qs.map qD)) qs 1 1 none none hq (by decide) (by decide) (by omega)
  have hpos := lcmF_pos qs 1 (by decide)
  have hc : compL (turnB (cfgOf pk.pg fuel (callF pk.pg chkC fuel (d + 1))) [4, 3] ce3_0 ct3_0 .nil [some (.lst (qs.map qD)), some (.int (lcmF qs 1 : Nat)), l0, l1, none]) (qs.map qD) [] st = .ok ((qs.map fun q => q.num * ((lcmF qs 1 / q.den : Nat) : Int)).map D.int) st := by
    rw [compL_all (f := fun x => match x with | .tup [.int t, .int b] => .int (t * ((lcmF qs 1 : Nat) : Int).fdiv b) | x => x) _ (fun x hx => ?_)]
    · congr 1
      rw [List.map_map, List.map_map]
      refine List.map_congr_left fun q hq => ?_
      show D.int (q.num * ((lcmF qs 1 : Nat) : Int).fdiv (q.den : Int)) = _
      rw [nat_fdiv]
      rfl
    · obtain ⟨q, hqm, rfl⟩ := List.mem_map.mp hx
      have hq0 := hq q hqm
      have dv : DivOk (q.den : Int) := by
        refine ⟨by have := q.den_pos; omega, Nat.lt_of_le_of_lt hq0.2.log hB⟩
      have hle : lcmF qs 1 / q.den ≤ lcmF qs 1 := Nat.div_le_self _ _
      have mo : MP.MulOk q.num (((lcmF qs 1 : Nat) : Int) / (q.den : Int)) := by
        have := Bd.mulOk (B := B) (C := 1 + qs.length * B) hq0.1 (nat_bd (Nat.lt_of_le_of_lt hle hL)) (by omega)
        rwa [Int.natCast_ediv] at this
      unfold ct3_0 qD
      rw [turn_tup rfl]
      simp [ce3_0, dv, mo, nat_fdiv]
  have hlow := ev_lowest (fuel := fuel) (d := d) (st := st) (wrow qs) (B := 1 + qs.length * B) (by omega) ⟨_, List.mem_cons_self, by omega, nat_bd hL⟩
  unfold lt3_0 lb3_0 at h1
  unfold ce3_0 ct3_0 at hc
  have hlen : 1 + qs.length ≤ lim := by unfold lim; omega
  have e1 : ((1 : Nat) : Int) = 1 := rfl
  rw [e1] at h1
  have e2 : D.lst (.int (lcmF qs 1 : Nat) :: (qs.map fun q => q.num * ((lcmF qs 1 / q.den : Nat) : Int)).map D.int) = intsL (wrow qs) := rfl
  have hnr : nr (intsL (mlow (wrow qs))) = true := by
    unfold intsL
    rw [nr_lst]
    exact nrs_map _ nr_int _
  have htl : ((qs.map fun q => q.num * ((lcmF qs 1 / q.den : Nat) : Int)).map D.int).length = qs.length := by simp
  generalize (qs.map fun q => q.num * ((lcmF qs 1 / q.den : Nat) : Int)).map D.int = tl at hc e2 htl
  have hlen2 : 1 + tl.length ≤ lim := by rw [htl]; exact hlen
  have hlen3 : tl.length + 1 ≤ lim := by omega
  simp [wk_lst, h1, hc, hlen2, hlen3, e2, hlow, hnr]
end W86
set_option linter.all false
set_option maxRecDepth 100000
set_option maxHeartbeats 1000000
/-! W13: a table in the store. -/
namespace W86
open PySem MP I86
variable {fuel d : Nat} {st junk : St} {n : Nat} {R : List (List Int)} {I O : List Int} {m : Bool}
/-- a table: its fields, its three lists, and what lies behind them -/
def tabS (st : St) (n : Nat) (R : List (List Int)) (I O : List Int) (junk : St) : St :=
  st ++ (.ins 0 [(11, .int n), (10, .ref (st.length + 1)), (12, .ref (st.length + 2)), (13, .ref (st.length + 3))] :: .lst (R.map intsL) :: .lst (I.map D.int) :: .lst (O.map D.int) :: junk)
theorem tab_get (k : Nat) : (tabS st n R I O junk)[st.length + k]? = (SO.ins 0 [(11, .int n), (10, .ref (st.length + 1)), (12, .ref (st.length + 2)), (13, .ref (st.length + 3))] :: .lst (R.map intsL) :: .lst (I.map D.int) :: .lst (O.map D.int) :: junk)[k]? := by
  unfold tabS
  rw [List.getElem?_append_right (by omega)]
  congr 1
  omega
@[simp] theorem tab_0 : (tabS st n R I O junk)[st.length]? = some (.ins 0 [(11, .int n), (10, .ref (st.length + 1)), (12, .ref (st.length + 2)), (13, .ref (st.length + 3))]) := tab_get 0
@[simp] theorem tab_1 : (tabS st n R I O junk)[st.length + 1]? = some (.lst (R.map intsL)) := tab_get 1
@[simp] theorem tab_2 : (tabS st n R I O junk)[st.length + 2]? = some (.lst (I.map D.int)) := tab_get 2
@[simp] theorem tab_3 : (tabS st n R I O junk)[st.length + 3]? = some (.lst (O.map D.int)) := tab_get 3
section
variable {call : Nat → List D → St → Res D}
@[simp] theorem tab_cls : clsD (tabS st n R I O junk) (.ref st.length) = some 0 := by
  unfold clsD
  simp
theorem tab_fld (f : Nat) : fldD (tabS st n R I O junk) (.ref st.length) f = [(11, D.int n), (10, .ref (st.length + 1)), (12, .ref (st.length + 2)), (13, .ref (st.length + 3))].lookup f := by
  unfold fldD
  simp
theorem tab_attr (f : Nat) (v : D) (h : [(11, D.int n), (10, .ref (st.length + 1)), (12, .ref (st.length + 2)), (13, .ref (st.length + 3))].lookup f = some v) (hf : pk.pg.isF 0 f = true) :
    attrD (cfgOf pk.pg fuel call) (.ref st.length) f (tabS st n R I O junk) = .ok v (tabS st n R I O junk) := by
  unfold attrD
  simp [tab_fld, h, hf]
@[simp] theorem attr_many : attrD (cfgOf pk.pg fuel call) (.ref st.length) 11 (tabS st n R I O junk) = .ok (.int n) (tabS st n R I O junk) := tab_attr 11 _ rfl rfl
@[simp] theorem attr_rows : attrD (cfgOf pk.pg fuel call) (.ref st.length) 10 (tabS st n R I O junk) = .ok (.ref (st.length + 1)) (tabS st n R I O junk) := tab_attr 10 _ rfl rfl
@[simp] theorem attr_inner : attrD (cfgOf pk.pg fuel call) (.ref st.length) 12 (tabS st n R I O junk) = .ok (.ref (st.length + 2)) (tabS st n R I O junk) := tab_attr 12 _ rfl rfl
@[simp] theorem attr_outer : attrD (cfgOf pk.pg fuel call) (.ref st.length) 13 (tabS st n R I O junk) = .ok (.ref (st.length + 3)) (tabS st n R I O junk) := tab_attr 13 _ rfl rfl
theorem findM_tab (f g : Nat) (h : [(11, D.int n), (10, .ref (st.length + 1)), (12, .ref (st.length + 2)), (13, .ref (st.length + 3))].lookup f = none) (hm : pk.pg.meth 0 f = some g) :
    findM (cfgOf pk.pg fuel call) (.ref st.length) f (tabS st n R I O junk) = some g := by
  unfold findM
  simp [tab_fld, h, hm]
@[simp] theorem meth_1 : findM (cfgOf pk.pg fuel call) (.ref st.length) 1 (tabS st n R I O junk) = some 27 := findM_tab 1 27 rfl rfl
@[simp] theorem meth_2 : findM (cfgOf pk.pg fuel call) (.ref st.length) 2 (tabS st n R I O junk) = some 28 := findM_tab 2 28 rfl rfl
@[simp] theorem meth_3 : findM (cfgOf pk.pg fuel call) (.ref st.length) 3 (tabS st n R I O junk) = some 29 := findM_tab 3 29 rfl rfl
@[simp] theorem meth_4 : findM (cfgOf pk.pg fuel call) (.ref st.length) 4 (tabS st n R I O junk) = some 30 := findM_tab 4 30 rfl rfl
@[simp] theorem meth_5 : findM (cfgOf pk.pg fuel call) (.ref st.length) 5 (tabS st n R I O junk) = some 31 := findM_tab 5 31 rfl rfl
end
theorem idx_ref {s : St} {k : Nat} {xs : List D} (h : s[k]? = some (.lst xs)) (j : Nat) (hj : j < xs.length) : idxD s (.ref k) (.int j) = some xs[j] := by
  unfold idxD
  dsimp only
  rw [h]
  show L2.atI xs (j : Int) = _
  rw [atI_nat]; simp [hj]
theorem len_ref {s : St} {k : Nat} {xs : List D} (h : s[k]? = some (.lst xs)) : biD .len m [.ref k] s = .ok (.int xs.length) s := by
  unfold biD seqOf lstOf
  dsimp only
  rw [h]
@[simp] theorem len_rowsT : biD .len m [.ref (st.length + 1)] (tabS st n R I O junk) = .ok (.int R.length) (tabS st n R I O junk) := by
  rw [len_ref tab_1]; simp
@[simp] theorem len_inner : biD .len m [.ref (st.length + 2)] (tabS st n R I O junk) = .ok (.int I.length) (tabS st n R I O junk) := by
  rw [len_ref tab_2]; simp
@[simp] theorem len_outer : biD .len m [.ref (st.length + 3)] (tabS st n R I O junk) = .ok (.int O.length) (tabS st n R I O junk) := by
  rw [len_ref tab_3]; simp
theorem idx_rowsT (j : Nat) (h : j < R.length) : idxD (tabS st n R I O junk) (.ref (st.length + 1)) (.int j) = some (intsL R[j]) := by
  rw [idx_ref tab_1 j (by simpa using h)]; simp
theorem idx_inner (j : Nat) (h : j < I.length) : idxD (tabS st n R I O junk) (.ref (st.length + 2)) (.int j) = some (.int I[j]) := by
  rw [idx_ref tab_2 j (by simpa using h)]; simp
theorem idx_outer (j : Nat) (h : j < O.length) : idxD (tabS st n R I O junk) (.ref (st.length + 3)) (.int j) = some (.int O[j]) := by
  rw [idx_ref tab_3 j (by simpa using h)]; simp
@[simp] theorem getV_ints (r : List Int) (env : En) : getV (some (intsL r) :: env) 0 = some (intsL r) := id rfl
theorem idx_ints (r : List Int) (j : Nat) (h : j < r.length) (s : St) : idxD s (intsL r) (.int j) = some (.int r[j]) := by
  unfold intsL
  rw [idx_lst _ j (by simpa using h)]; simp
@[simp] theorem len_ints (r : List Int) (s : St) : biD .len m [intsL r] s = .ok (.int r.length) s := by simp [intsL]
/-- the last of the rows -/
theorem idx_last (h : 0 < R.length) : idxD (tabS st n R I O junk) (.ref (st.length + 1)) (.int (-1)) = some (intsL (R[R.length - 1]'(by omega))) := by
  unfold idxD
  dsimp only
  rw [tab_1]
  show L2.atI (R.map intsL) (-1) = _
  unfold L2.atI L2.ixN
  have h1 : ¬ ((0 : Int) ≤ -1) := by omega
  have h2 : -(((R.map intsL).length : Nat) : Int) ≤ -1 := by simp; omega
  have h3 : (-1 + (((R.map intsL).length : Nat) : Int)).toNat = R.length - 1 := by simp; omega
  rw [if_neg h1, if_pos h2, h3]
  have h4 : R.length - 1 < R.length := by omega
  simp [h4]
end W86
set_option linter.all false
set_option maxRecDepth 100000
set_option maxHeartbeats 1000000
/-! W14: the partners. -/
namespace W86
open PySem MP I86
variable {fuel d : Nat} {st junk : St} {n : Nat} {R : List (List Int)} {I O : List Int} {m : Bool}
def optD : Option Nat → D
  | none => .non
  | some k => .int k
@[simp] theorem getV_opt (o : Option Nat) (env : En) : getV (some (optD o) :: env) 0 = some (optD o) := by cases o <;> rfl
@[simp] theorem nr_opt (o : Option Nat) : nr (optD o) = true := by cases o <;> simp [optD]
/-- the one of least name among those that p takes -/
def better (w : List Int) (i : Nat) : Option Nat → Bool
  | none => true
  | some j => decide (w.getD i 0 < w.getD j 0)
def selF (p : Nat → Bool) (w : List Int) : Nat → Nat → Option Nat → Option Nat
  | 0, _, b => b
  | m + 1, i, b => selF p w m (i + 1) (if (p i && better w i b) = true then some i else b)
theorem outer_loop {call : Nat → List D → St → Res D} {at' : Nat} (ha : at' < R.length) (hr : R[at'].length = n + 2) (hO : O.length = n) :
    ∀ (k i : Nat) (b : Option Nat) (k0 : Option D), i + k = n → (∀ j, b = some j → j < n) → ∃ k1, forL (stepB (cfgOf pk.pg fuel call) lt28_0 lb28_0) (rangeL i n) [some (.ref st.length), some (.int at'), some (optD b), k0] (tabS st n R I O junk) =
      .next [some (.ref st.length), some (.int at'), some (optD (selF (fun k => decide (0 < R[at'].getD (k + 2) 0)) O k i b)), k1] (tabS st n R I O junk)
  | 0, i, b, k0, hi, hb => by
    rw [range_nil _ _ (by omega)]
    exact ⟨k0, by unfold forL; rfl⟩
  | k + 1, i, b, k0, hi, hb => by
    rw [range_cons _ _ (by omega)]
    unfold forL
    have h1 : i + 2 < R[at'].length := by omega
    have h2 : i < O.length := by omega
    have e2 : ((i + 1 : Nat) : Int) = (i : Int) + 1 := by omega
    have e3 : ((i + 2 : Nat) : Int) = (i : Int) + 2 := by omega
    have hx := idx_ints R[at'] (i + 2) h1 (tabS st n R I O junk)
    rw [e3] at hx
    have hg : R[at'].getD (i + 2) 0 = R[at'][i + 2] := by simp [h1]
    have step : stepB (cfgOf pk.pg fuel call) lt28_0 lb28_0 (.int i) [some (.ref st.length), some (.int at'), some (optD b), k0] (tabS st n R I O junk) =
        .next [some (.ref st.length), some (.int at'), some (optD (if (decide (0 < R[at'].getD (i + 2) 0) && better O i b) = true then some i else b)), some (.int i)] (tabS st n R I O junk) := by
      unfold lt28_0 lb28_0
      rw [hg]
      by_cases hp : 0 < R[at'][i + 2]
      · cases b with
        | none => simp [idx_rowsT at' ha, hx, hp, optD, better]
        | some j =>
          have hj := hb j rfl
          have hj2 : j < O.length := by omega
          have g1 : O.getD i 0 = O[i] := by simp [h2]
          have g2 : O.getD j 0 = O[j] := by simp [hj2]
          by_cases hlt : O[i] < O[j]
          · simp [idx_rowsT at' ha, hx, hp, optD, better, idx_outer i h2, idx_outer j hj2, h2, hj2, hlt]
          · simp [idx_rowsT at' ha, hx, hp, optD, better, idx_outer i h2, idx_outer j hj2, h2, hj2, hlt]
      · simp [idx_rowsT at' ha, hx, hp]
    obtain ⟨k1, ih⟩ := outer_loop ha hr hO k (i + 1) (if (decide (0 < R[at'].getD (i + 2) 0) && better O i b) = true then some i else b) (some (.int i)) (by omega) (by
      intro j hj
      split at hj
      · cases hj; omega
      · exact hb j hj)
    rw [e2] at ih
    refine ⟨k1, ?_⟩
    rw [step]
    exact ih
def outP (R : List (List Int)) (O : List Int) (n at' : Nat) : Option Nat := selF (fun k => decide (0 < (R.getD at' []).getD (k + 2) 0)) O n 0 none
def inP (R : List (List Int)) (I : List Int) (col : Nat) : Option Nat := selF (fun k => decide ((R.getD k []).getD (col + 2) 0 < 0)) I I.length 0 none
theorem fin_tab (dd : D) : fin chkC true dd (tabS st n R I O junk) (tabS st n R I O junk) = if nr dd = true then .ok dd (tabS st n R I O junk) else .bad := fin_same ..
theorem ev_outP {at' : Nat} (hn : n ≤ 1000) (ha : at' < R.length) (hr : R[at'].length = n + 2) (hO : O.length = n) : callF pk.pg chkC fuel (d + 1) 28 [.ref st.length, .int at'] (tabS st n R I O junk) = .ok (optD (outP R O n at')) (tabS st n R I O junk) := by
  rw [call_eq 28 f28 rfl _ [.ref st.length, .int at'] rfl]
  unfold runF f28 b28
  obtain ⟨k1, h⟩ := outer_loop (st := st) (junk := junk) (I := I) (fuel := fuel) (call := callF pk.pg chkC fuel d) ha hr hO n 0 none none (by omega) (fun j hj => by cases hj)
  unfold lt28_0 lb28_0 at h
  have hs : small n := by unfold small; omega
  have e0 : optD none = .non := rfl
  have e1 : outP R O n at' = selF (fun k => decide (0 < R[at'].getD (k + 2) 0)) O n 0 none := by
    unfold outP
    have : R.getD at' [] = R[at'] := by simp [ha]
    rw [this]
  rw [e0] at h
  rw [e1]
  simp only [show ((0 : Nat) : Int) = 0 from rfl] at h
  simp [hs, h]
theorem inner_loop {call : Nat → List D → St → Res D} {col : Nat} (hr : ∀ r ∈ R, col + 2 < r.length) (hI : I.length ≤ R.length) :
    ∀ (k i : Nat) (b : Option Nat) (k0 : Option D), i + k = I.length → (∀ j, b = some j → j < I.length) → ∃ k1, forL (stepB (cfgOf pk.pg fuel call) lt29_0 lb29_0) (rangeL i I.length) [some (.ref st.length), some (.int col), some (optD b), k0] (tabS st n R I O junk) =
      .next [some (.ref st.length), some (.int col), some (optD (selF (fun k => decide ((R.getD k []).getD (col + 2) 0 < 0)) I k i b)), k1] (tabS st n R I O junk)
  | 0, i, b, k0, hi, hb => by
    rw [range_nil _ _ (by omega)]
    exact ⟨k0, by unfold forL; rfl⟩
  | k + 1, i, b, k0, hi, hb => by
    rw [range_cons _ _ (by omega)]
    unfold forL
    have h0 : i < R.length := by omega
    have h1 : col + 2 < R[i].length := hr _ (List.getElem_mem h0)
    have h2 : i < I.length := by omega
    have e2 : ((i + 1 : Nat) : Int) = (i : Int) + 1 := by omega
    have e3 : ((col + 2 : Nat) : Int) = (col : Int) + 2 := by omega
    have hx := idx_ints R[i] (col + 2) h1 (tabS st n R I O junk)
    rw [e3] at hx
    have hg : (R.getD i []).getD (col + 2) 0 = R[i][col + 2] := by simp [h0, h1]
    have step : stepB (cfgOf pk.pg fuel call) lt29_0 lb29_0 (.int i) [some (.ref st.length), some (.int col), some (optD b), k0] (tabS st n R I O junk) =
        .next [some (.ref st.length), some (.int col), some (optD (if (decide ((R.getD i []).getD (col + 2) 0 < 0) && better I i b) = true then some i else b)), some (.int i)] (tabS st n R I O junk) := by
      unfold lt29_0 lb29_0
      rw [hg]
      by_cases hp : R[i][col + 2] < 0
      · cases b with
        | none => simp [idx_rowsT i h0, hx, hp, optD, better]
        | some j =>
          have hj := hb j rfl
          by_cases hlt : I[i] < I[j]
          · simp [idx_rowsT i h0, hx, hp, optD, better, idx_inner i h2, idx_inner j hj, h2, hj, hlt]
          · simp [idx_rowsT i h0, hx, hp, optD, better, idx_inner i h2, idx_inner j hj, h2, hj, hlt]
      · simp [idx_rowsT i h0, hx, hp]
    obtain ⟨k1, ih⟩ := inner_loop hr hI k (i + 1) (if (decide ((R.getD i []).getD (col + 2) 0 < 0) && better I i b) = true then some i else b) (some (.int i)) (by omega) (by
      intro j hj
      split at hj
      · cases hj; omega
      · exact hb j hj)
    rw [e2] at ih
    refine ⟨k1, ?_⟩
    rw [step]
    exact ih
theorem ev_inP {col : Nat} (hI : I.length ≤ R.length) (hR : I.length ≤ 1000) (hr : ∀ r ∈ R, col + 2 < r.length) : callF pk.pg chkC fuel (d + 1) 29 [.ref st.length, .int col] (tabS st n R I O junk) = .ok (optD (inP R I col)) (tabS st n R I O junk) := by
  rw [call_eq 29 f29 rfl _ [.ref st.length, .int col] rfl]
  unfold runF f29 b29
  obtain ⟨k1, h⟩ := inner_loop (st := st) (junk := junk) (n := n) (O := O) (fuel := fuel) (call := callF pk.pg chkC fuel d) hr hI I.length 0 none none (by omega) (fun j hj => by cases hj)
  unfold lt29_0 lb29_0 at h
  have hs : small I.length := by unfold small; omega
  have e0 : optD none = .non := rfl
  rw [e0] at h
  simp only [show ((0 : Nat) : Int) = 0 from rfl] at h
  simp [hs, h, inP]
end W86
set_option linter.all false
set_option maxRecDepth 100000
set_option maxHeartbeats 1000000
/-! W15: which name is wrong. -/
namespace W86
open PySem MP I86
variable {fuel d : Nat} {st junk : St} {n : Nat} {R : List (List Int)} {I O : List Int} {m : Bool}
theorem turn_if {c : Cfg} {own : List Nat} {elt t : E} {p : Pos} {i : Nat} {env : En} {x : D} : turnB c own elt (.name p i) (.cons t .nil) env x st = (evAllT c (.cons t .nil) ((wipeE env own).set i (some x)) st).bind fun q s => if q then (ev c elt ((wipeE env own).set i (some x)) s).bind fun y s => .ok (some y) s else .ok none s := by
  unfold turnB
  simp only [bindT]
/-- the names that a test takes -/
def takes (p : Nat → Bool) (w : List Int) : List Int := ((List.range w.length).filter p).map fun k => w.getD k 0
theorem takes_D {body : D → St → Res (Option D)} {p : Nat → Bool} {w : List Int} {k : Nat} (hk : k = w.length) (h : ∀ j : Nat, j < k → body (.int j) st = .ok (if p j = true then some (.int (w.getD j 0)) else none) st) :
    compL body (rangeL 0 k) [] st = .ok ((takes p w).map D.int) st := by
  subst hk
  have e : rangeL 0 (w.length : Int) = (List.range w.length).map fun (j : Nat) => D.int j := by
    unfold rangeL
    simp
  rw [e, compL_map (f := fun x => match x with | .int j => if p j.toNat = true then some (.int (w.getD j.toNat 0)) else none | _ => none) _ [] (fun x hx => ?_)]
  · rw [List.nil_append]
    congr 1
    unfold takes
    rw [List.map_map, List.filterMap_map]
    generalize List.range w.length = l
    induction l with
    | nil => rfl
    | cons a l ih =>
      rw [List.filterMap_cons, List.filter_cons]
      by_cases hp : p a = true
      · simp only [Function.comp_apply, Int.toNat_natCast, hp, if_true]
        rw [List.map_cons, ih]
        rfl
      · simp only [Function.comp_apply, Int.toNat_natCast, hp, if_false]
        exact ih
  · obtain ⟨j, hj, rfl⟩ := List.mem_map.mp hx
    rw [h j (List.mem_range.mp hj)]
    simp
theorem cmp_eq_empty (l : List Int) (s : St) : cmpD s .eq (.lst (l.map D.int)) (.lst []) = some (decide (l = [])) := by
  have go : ∀ l : List Int, (l.map D.int).mapM (pyd s 11) = some (l.map PyData.int) := by
    intro l
    induction l with
    | nil => rfl
    | cons a l ih => rw [List.map_cons, List.mapM_cons, ih]; rfl
  show ((pyd s 12 (.lst (l.map D.int))).bind fun x => (pyd s 12 (.lst [])).map fun y => PyData.eqv x y) = _
  have e1 : pyd s 12 (.lst (l.map D.int)) = some (.list (l.map PyData.int)) := by
    show ((l.map D.int).mapM (pyd s 11)).map PyData.list = _
    rw [go]; rfl
  rw [e1]
  cases l with
  | nil => rfl
  | cons a l => rfl
def wrongL (R : List (List Int)) (I O : List Int) : List Int := takes (fun k => decide ((R.getD k []).getD 1 0 < 0)) I ++ takes (fun k => decide ((R.getD (R.length - 1) []).getD (k + 2) 0 < 0)) O
def optI : Option Int → D
  | none => .non
  | some k => .int k
theorem intsOf_map (l : List Int) : intsOf (l.map D.int) = some l := by
  induction l with
  | nil => rfl
  | cons a l ih => simp [intsOf, ih]
theorem bi_min1 (l : List Int) (s : St) : biD .min1 m [.lst (l.map D.int)] s = ofO ((minI l).map .int) s := by
  show (match (lstOf s (.lst (l.map D.int))).bind intsOf with | some ns => (ofO ((minI ns).map D.int) s : Res D) | none => .bad) = _
  have e2 : (lstOf s (.lst (l.map D.int))).bind intsOf = some l := intsOf_map l
  rw [e2]
theorem ev_wrong (hn : n ≤ 1000) (hm : I.length ≤ 1000) (hR : R.length = I.length + 1) (hr : ∀ r ∈ R, r.length = n + 2) (hO : O.length = n) : callF pk.pg chkC fuel (d + 1) 27 [.ref st.length] (tabS st n R I O junk) = .ok (optI (minI (wrongL R I O))) (tabS st n R I O junk) := by
  rw [call_eq 27 f27 rfl _ [.ref st.length] rfl]
  unfold runF f27 b27
  have hs1 : small I.length := by unfold small; omega
  have hs2 : small n := by unfold small; omega
  have hlast : R.getD (R.length - 1) [] = R[R.length - 1]'(by omega) := by
    have : R.length - 1 < R.length := by omega
    simp [this]
  have c1 := takes_D (st := tabS st n R I O junk) (body := turnB (cfgOf pk.pg fuel (callF pk.pg chkC fuel d)) [3] ce27_0 ct27_0 ci27_0 [some (.ref st.length), none, none, none]) (p := fun k => decide ((R.getD k []).getD 1 0 < 0)) (w := I) (k := I.length) rfl (by
    intro j hj
    have h0 : j < R.length := by omega
    have h1 : 1 < R[j].length := by rw [hr _ (List.getElem_mem h0)]; omega
    have hx := idx_ints R[j] 1 h1 (tabS st n R I O junk)
    have e1 : ((1 : Nat) : Int) = 1 := rfl
    rw [e1] at hx
    have hg : (R.getD j []).getD 1 0 = R[j][1] := by simp [h0, h1]
    have hg2 : I.getD j 0 = I[j] := by simp [hj]
    unfold ct27_0 ci27_0
    rw [turn_if, hg, hg2]
    by_cases hp : R[j][1] < 0
    · simp [ce27_0, idx_rowsT j h0, hx, hp, idx_inner j hj]
    · simp [ce27_0, idx_rowsT j h0, hx, hp])
  have c2 := fun x => takes_D (st := tabS st n R I O junk) (body := turnB (cfgOf pk.pg fuel (callF pk.pg chkC fuel d)) [3] ce27_1 ct27_1 ci27_1 [some (.ref st.length), some (.lst x), some (intsL (R[R.length - 1]'(by omega))), none]) (p := fun k => decide ((R.getD (R.length - 1) []).getD (k + 2) 0 < 0)) (w := O) (k := n) hO.symm (by
    intro j hj
    have h0 : R.length - 1 < R.length := by omega
    have h1 : j + 2 < R[R.length - 1].length := by rw [hr _ (List.getElem_mem h0)]; omega
    have hx := idx_ints R[R.length - 1] (j + 2) h1 (tabS st n R I O junk)
    have e3 : ((j + 2 : Nat) : Int) = (j : Int) + 2 := by omega
    rw [e3] at hx
    have hg : (R.getD (R.length - 1) []).getD (j + 2) 0 = R[R.length - 1][j + 2] := by
      rw [hlast]; simp [h1]
    have h2 : j < O.length := by omega
    have hg2 : O.getD j 0 = O[j] := by simp [h2]
    unfold ct27_1 ci27_1
    rw [turn_if, hg, hg2]
    by_cases hp : R[R.length - 1][j + 2] < 0
    · simp [ce27_1, hx, hp, idx_outer j h2]
    · simp [ce27_1, hx, hp])
  unfold ce27_0 ct27_0 ci27_0 at c1
  unfold ce27_1 ct27_1 ci27_1 at c2
  have hl := idx_last (st := st) (n := n) (I := I) (O := O) (junk := junk) (R := R) (by omega)
  have hlen : (takes (fun k => decide ((R.getD k []).getD 1 0 < 0)) I).length + (takes (fun k => decide ((R.getD (R.length - 1) []).getD (k + 2) 0 < 0)) O).length ≤ lim := by
    have g : ∀ (p : Nat → Bool) (w : List Int), (takes p w).length ≤ w.length := fun p w => by
      unfold takes
      rw [List.length_map]
      exact Nat.le_trans (List.length_filter_le _ _) (by simp)
    have g1 := g (fun k => decide ((R.getD k []).getD 1 0 < 0)) I
    have g2 := g (fun k => decide ((R.getD (R.length - 1) []).getD (k + 2) 0 < 0)) O
    unfold lim; omega
  unfold wrongL
  generalize takes (fun k => decide ((R.getD k []).getD 1 0 < 0)) I = A at c1 hlen ⊢
  generalize takes (fun k => decide ((R.getD (R.length - 1) []).getD (k + 2) 0 < 0)) O = B at c2 hlen ⊢
  have e5 : A.map D.int ++ B.map D.int = (A ++ B).map D.int := by simp
  by_cases hE : A ++ B = []
  · have hm0 : minI (A ++ B) = none := by rw [hE]; rfl
    rw [hm0]
    have hA : A = [] := (List.append_eq_nil_iff.mp hE).1
    have hB : B = [] := (List.append_eq_nil_iff.mp hE).2
    subst hA hB
    have ce := cmp_eq_empty [] (tabS st n R I O junk)
    simp only [List.map_nil] at ce c1 c2
    simp [hs1, hs2, c1, c2, hl, ce, optI]
  · have ce := cmp_eq_empty (A ++ B) (tabS st n R I O junk)
    have bm := bi_min1 (m := false) (A ++ B) (tabS st n R I O junk)
    rw [decide_eq_false hE] at ce
    rw [← e5] at ce bm
    have hlen2 : (A.map D.int).length + (B.map D.int).length ≤ lim := by simpa using hlen
    obtain ⟨v, hv⟩ : ∃ v, minI (A ++ B) = some v := by
      cases q : A ++ B with
      | nil => exact absurd q hE
      | cons a l => exact ⟨_, rfl⟩
    rw [hv] at bm ⊢
    generalize A.map D.int = A' at c1 c2 ce bm hlen2
    generalize B.map D.int = B' at c1 c2 ce bm hlen2
    simp [hs1, hs2, c1, c2, hl, ce, bm, hlen2, optI]
end W86
set_option linter.all false
set_option maxRecDepth 100000
set_option maxHeartbeats 1000000
/-! W16: the lowest form of a list of the store. -/
namespace W86
open PySem MP I86
variable {fuel d : Nat} {st : St}
theorem forR_forL {body : D → En → St → RS} {n : Nat} {xs : List D} (I : En → Prop) (hst : st[n]? = some (.lst xs)) (hb : ∀ x ∈ xs, ∀ e, I e → (∃ e', body x e st = .next e' st ∧ I e') ∨ ∃ dd s', body x e st = .ret dd s') :
    ∀ (k i : Nat) (e : En), I e → 0 < k → xs.length < k + i → forR body n k i e st = forL body (xs.drop i) e st
  | 0, i, e, _, h0, _ => absurd h0 (by omega)
  | k + 1, i, e, hI, h0, hk => by
    unfold forR
    rw [hst]
    dsimp only
    cases q : xs[i]? with
    | none =>
      rw [List.drop_eq_nil_of_le (List.getElem?_eq_none_iff.mp q)]
      unfold forL
      rfl
    | some x =>
      have hlt := (List.getElem?_eq_some_iff.mp q).1
      have hx := (List.getElem?_eq_some_iff.mp q).2
      rw [List.drop_eq_getElem_cons hlt, hx]
      unfold forL
      dsimp only
      rcases hb x (List.mem_of_getElem? q) e hI with ⟨e', h, hI'⟩ | ⟨dd, s', h⟩
      · rw [h]
        exact forR_forL I hst hb k (i + 1) e' hI' (by omega) (by omega)
      · rw [h]
theorem ev_lowRef (r : List Int) {B τ : Nat} (hB : B < 9000) (hb : ∃ a ∈ r, a ≠ 0 ∧ Bd B a) (hst : st[τ]? = some (.lst (r.map D.int))) (hf : r.length < fuel) :
    ∃ s', (s' = st ∨ s' = st.set τ .dead) ∧ (callF pk.pg chkC fuel (d + 1) 2 [.ref τ] st).bind frzK = .ok (intsL (mlow r)) s' := by
  rw [call_eq 2 f2 rfl _ [.ref τ] rfl]
  unfold runF f2 b2
  obtain ⟨i1, i2⟩ := low_loop (st := st) (c := cfgOf pk.pg fuel (callF pk.pg chkC fuel d)) (.ref τ) (fun _ => rfl) r 0 none
  have hR := forR_forL (body := stepB (cfgOf pk.pg fuel (callF pk.pg chkC fuel d)) lt2_0 lb2_0) (fun e => ∃ (g : Nat) (k : Option D), e = [some (.ref τ), some (.int g), k]) hst (by
    rintro x hx e ⟨g, k, rfl⟩
    obtain ⟨a, ha, rfl⟩ := List.mem_map.mp hx
    by_cases h1 : Nat.gcd g a.natAbs = 1
    · exact .inr ⟨.ref τ, st, by unfold lt2_0 lb2_0; simp [h1]⟩
    · have h2 : ¬ (((Nat.gcd g a.natAbs : Nat) : Int) = 1) := by omega
      exact .inl ⟨[some (.ref τ), some (.int (Nat.gcd g a.natAbs : Nat)), some (.int a)], by unfold lt2_0 lb2_0; simp [h2], ⟨_, _, rfl⟩⟩) fuel 0 [some (.ref τ), some (.int (0 : Nat)), none] ⟨0, none, rfl⟩ (by omega) (by simpa using hf)
  rw [List.drop_zero] at hR
  rw [← hR] at i1
  have i2' : ∀ p, lowF r 0 = some p → ∃ k1, forR (stepB (cfgOf pk.pg fuel (callF pk.pg chkC fuel d)) lt2_0 lb2_0) τ fuel 0 [some (.ref τ), some (.int (0 : Nat)), none] st = .next [some (.ref τ), some (.int p), k1] st := by
    rw [hR]; exact i2
  unfold lt2_0 lb2_0 at i1 i2'
  have ew : wkD st (.ref τ) = some (.cell τ) := by
    unfold wkD
    dsimp only
    rw [hst]
  have e00 : ((0 : Nat) : Int) = 0 := rfl
  rw [e00] at i1 i2'
  cases q : lowF r 0 with
  | none =>
    have h1 := lowF_none r 0 q
    rw [Nat.gcd_zero_left] at h1
    have e : mlow r = r := by
      unfold mlow
      rw [h1]
      simp
    have i1' := i1 q
    refine ⟨st.set τ .dead, .inr rfl, ?_⟩
    have hz : frz 6 (.ref τ) st = some (intsL r, st.set τ .dead) := by
      have go : ∀ (k : Nat) (l : List Int) (s : St), frzs k (l.map D.int) s = some (l.map D.int, s) := by
        intro k l s
        induction l with
        | nil => unfold frzs; rfl
        | cons a l ih => rw [List.map_cons]; unfold frzs; rw [frz_int]; dsimp only; rw [ih]
      unfold frz
      rw [hst]
      dsimp only
      rw [go]
      rfl
    simp [ew, i1', e, frzK, hz]
  | some p =>
    have h1 := lowF_some r 0 p q
    rw [Nat.gcd_zero_left] at h1
    obtain ⟨k1, h2⟩ := i2' p q
    refine ⟨st, .inl rfl, ?_⟩
    obtain ⟨a, ha, ha0, haB⟩ := hb
    have hdvd := gcdL_dvd r a ha
    have hpos : 0 < gcdL r := by
      rcases Nat.eq_zero_or_pos (gcdL r) with z | z
      · rw [z] at hdvd
        exact absurd (Int.zero_dvd.mp hdvd) ha0
      · exact z
    have hle : gcdL r ≤ a.natAbs := Nat.le_of_dvd (by omega) (Int.ofNat_dvd_left.mp hdvd)
    have dv : DivOk (p : Int) := by
      rw [h1]
      refine ⟨by omega, ?_⟩
      have hb2 : Bd B ((gcdL r : Nat) : Int) := Nat.lt_of_le_of_lt (by simpa using hle) haB
      exact Nat.lt_of_le_of_lt hb2.log hB
    have hbody : ∀ x ∈ r.map D.int, turnB (cfgOf pk.pg fuel (callF pk.pg chkC fuel d)) [2] ce2_0 ct2_0 .nil [some (.ref τ), some (.int p), k1] x st = .ok (some (match x with | .int i => .int (i.fdiv p) | x => x)) st := by
      intro x hx
      obtain ⟨i, hi, rfl⟩ := List.mem_map.mp hx
      unfold ct2_0
      rw [turn_name]
      simp [ce2_0, dv]
    have hc : compR (turnB (cfgOf pk.pg fuel (callF pk.pg chkC fuel d)) [2] ce2_0 ct2_0 .nil [some (.ref τ), some (.int p), k1]) τ fuel 0 [] st = .ok ((mlow r).map D.int) st := by
      rw [compR_L hst (fun x hx => ⟨_, hbody x hx⟩) fuel 0 [] (by omega) (by simpa using hf), List.drop_zero, compL_all _ hbody]
      congr 1
      unfold mlow
      rw [List.map_map, List.map_map]
      refine List.map_congr_left fun i hi => ?_
      show D.int (i.fdiv p) = D.int (i / (gcdL r : Int))
      rw [h1, fdiv_exact (gcdL_dvd r i hi)]
    unfold ce2_0 ct2_0 at hc
    have er : intsL (mlow r) = .lst ((mlow r).map D.int) := rfl
    have hz : frz 6 (.lst ((mlow r).map D.int)) st = some (.lst ((mlow r).map D.int), st) := by unfold frz; rfl
    rw [er]
    simp [ew, h2, hc, frzK, hz]
end W86
set_option linter.all false
set_option maxRecDepth 100000
set_option maxHeartbeats 1000000
/-! W17: stores of a table. -/
namespace W86
open PySem MP I86
variable {fuel d : Nat} {st junk : St} {n : Nat} {R : List (List Int)} {I O : List Int} {m : Bool}
@[simp] theorem tab_app (xs : St) : tabS st n R I O junk ++ xs = tabS st n R I O (junk ++ xs) := by
  unfold tabS
  rw [List.append_assoc]; rfl
@[simp] theorem tab_len : (tabS st n R I O junk).length = st.length + 4 + junk.length := by
  unfold tabS
  simp
  omega
theorem tab_junk (j1 j2 : St) (o : SO) : (tabS st n R I O (j1 ++ o :: j2))[st.length + 4 + j1.length]? = some o := by
  unfold tabS
  rw [List.getElem?_append_right (by omega)]
  have e : st.length + 4 + j1.length - st.length = 4 + j1.length := by omega
  rw [e]
  have e2 : 4 + j1.length = j1.length + 1 + 1 + 1 + 1 := by omega
  rw [e2]
  simp
theorem tab_junk_set (j1 j2 : St) (o o' : SO) : (tabS st n R I O (j1 ++ o :: j2)).set (st.length + 4 + j1.length) o' = tabS st n R I O (j1 ++ o' :: j2) := by
  unfold tabS
  rw [List.set_append_right _ _ (by omega)]
  have e : st.length + 4 + j1.length - st.length = j1.length + 1 + 1 + 1 + 1 := by omega
  rw [e]
  simp
theorem set_ref {s : St} {k : Nat} {xs : List D} (h : s[k]? = some (.lst xs)) (j : Nat) (hj : j < xs.length) (v : D) : setD (.ref k) (.int j) v s = some (s.set k (.lst (xs.set j v))) := by
  unfold setD
  dsimp only
  rw [h]
  dsimp only
  rw [ixN_nat _ _ hj]; rfl
theorem set_rowsT (k : Nat) (r : List Int) (h : k < R.length) : setD (.ref (st.length + 1)) (.int k) (intsL r) (tabS st n R I O junk) = some (tabS st n (R.set k r) I O junk) := by
  rw [set_ref tab_1 k (by simpa using h)]
  congr 1
  unfold tabS
  rw [List.set_append_right _ _ (by omega)]
  have e : st.length + 1 - st.length = 1 := by omega
  rw [e]
  simp [List.map_set]
theorem set_innerT (k : Nat) (i : Int) (h : k < I.length) : setD (.ref (st.length + 2)) (.int k) (.int i) (tabS st n R I O junk) = some (tabS st n R (I.set k i) O junk) := by
  rw [set_ref tab_2 k (by simpa using h)]
  congr 1
  unfold tabS
  rw [List.set_append_right _ _ (by omega)]
  have e : st.length + 2 - st.length = 2 := by omega
  rw [e]
  simp [List.map_set]
theorem set_outerT (k : Nat) (i : Int) (h : k < O.length) : setD (.ref (st.length + 3)) (.int k) (.int i) (tabS st n R I O junk) = some (tabS st n R I (O.set k i) junk) := by
  rw [set_ref tab_3 k (by simpa using h)]
  congr 1
  unfold tabS
  rw [List.set_append_right _ _ (by omega)]
  have e : st.length + 3 - st.length = 3 := by omega
  rw [e]
  simp [List.map_set]
/-! ### what turn makes of the rows -/
def sgnR (r : List Int) (col : Nat) : Int := if r.getD (col + 2) 0 < 0 then -1 else 1
/-- the row of the new basic name -/
def freshR (r : List Int) (col : Nat) : List Int := mlow (((r.map fun e => -(sgnR r col) * e).set 0 (sgnR r col * r.getD (col + 2) 0)).set (col + 2) (sgnR r col * r.getD 0 0))
/-- another row -/
def mixR (fresh r : List Int) (col : Nat) : List Int := mlow ((((List.range r.length).map fun j => fresh.getD 0 0 * r.getD j 0 + r.getD (col + 2) 0 * fresh.getD j 0).set 0 (fresh.getD 0 0 * r.getD 0 0)).set (col + 2) (r.getD (col + 2) 0 * fresh.getD (col + 2) 0))
def newR (fresh : List Int) (at' col k : Nat) (r : List Int) : List Int := if k = at' then fresh else if r.getD (col + 2) 0 = 0 then r else mixR fresh r col
def turnR (R : List (List Int)) (at' col : Nat) : List (List Int) := (List.range R.length).map fun k => newR (freshR (R.getD at' []) col) at' col k (R.getD k [])
end W86
set_option linter.all false
set_option maxRecDepth 100000
set_option maxHeartbeats 2000000
/-! W18: a turn's step at one row. -/
namespace W86
open PySem MP I86
variable {fuel d : Nat} {st junk : St} {n : Nat} {R : List (List Int)} {I O : List Int} {m : Bool}
theorem compI {body : D → St → Res (Option D)} {g : Nat → Int} {k : Nat} (h : ∀ j : Nat, j < k → body (.int j) st = .ok (some (.int (g j))) st) :
    compL body (rangeL 0 k) [] st = .ok (((List.range k).map g).map D.int) st := by
  have e : rangeL 0 (k : Int) = (List.range k).map fun (j : Nat) => D.int j := by
    unfold rangeL
    simp
  rw [e, compL_map (f := fun x => match x with | .int j => some (.int (g j.toNat)) | _ => none) _ [] (fun x hx => ?_)]
  · rw [List.nil_append]
    congr 1
    rw [List.map_map, List.filterMap_map]
    generalize List.range k = l
    induction l with
    | nil => rfl
    | cons a l ih =>
      rw [List.filterMap_cons, List.map_cons, ← ih]
      simp
  · obtain ⟨j, hj, rfl⟩ := List.mem_map.mp hx
    rw [h j (List.mem_range.mp hj)]
    simp
theorem setD_end {s : St} {k : Nat} {xs : List Int} (h : s[k]? = some (.lst (xs.map D.int))) (j : Nat) (hj : j < xs.length) (v : Int) : setD (.ref k) (.int j) (.int v) s = some (s.set k (.lst ((xs.set j v).map D.int))) := by
  rw [set_ref h j (by simpa using hj), List.map_set]
/-- what is made of one row -/
def stepR (f : List Int) (at' col k : Nat) (r : List Int) : List Int := if k ≠ at' ∧ r.getD (col + 2) 0 ≠ 0 then mixR f r col else r
theorem turn_step {at' col k : Nat} {f : List Int} {E : Nat} (hE : E ≤ 2000) (hk : k < R.length) (hr : R[k].length = n + 2) (hf : f.length = n + 2) (hcol : col < n) (hn : n ≤ 1000) (hfu : n + 2 < fuel)
    (br : ∀ a ∈ R[k], Bd E a) (bf : ∀ a ∈ f, Bd E a) (hpos : f.getD 0 0 ≠ 0) (hr0 : R[k].getD 0 0 ≠ 0) (e3 e4 : D) (s6 s7 s8 s9 : Option D) :
    ∃ (junk' : St) (l7 l8 l9 : Option D), stepB (cfgOf pk.pg fuel (callF pk.pg chkC fuel (d + 1))) lt30_0 lb30_0 (.int k) [some (.ref st.length), some (.int at'), some (.int col), some e3, some e4, some (intsL f), s6, s7, s8, s9, none, none] (tabS st n R I O junk) =
      .next [some (.ref st.length), some (.int at'), some (.int col), some e3, some e4, some (intsL f), some (.int k), l7, l8, l9, none, none] (tabS st n (R.set k (stepR f at' col k R[k])) I O junk') := by
  have hc2 : col + 2 < R[k].length := by omega
  have hx := idx_ints R[k] (col + 2) hc2
  have e2 : ((col + 2 : Nat) : Int) = (col : Int) + 2 := by omega
  rw [e2] at hx
  have hg : R[k].getD (col + 2) 0 = R[k][col + 2] := by simp [hc2]
  by_cases hcond : k ≠ at' ∧ R[k].getD (col + 2) 0 ≠ 0
  · obtain ⟨h1, h4⟩ := hcond
    have h5 : ¬ ((k : Int) = (at' : Int)) := by omega
    have hlead : R[k][col + 2] ≠ 0 := by rw [← hg]; exact h4
    have hf0 : 0 < f.length := by omega
    have hrl : 0 < R[k].length := by omega
    have gf0 : f.getD 0 0 = f[0] := by simp [hf0]
    have gr0 : R[k].getD 0 0 = R[k][0] := by simp [hrl]
    have hfc : col + 2 < f.length := by omega
    have gfc : f.getD (col + 2) 0 = f[col + 2] := by simp [hfc]
    have hf0x := idx_ints f 0 hf0
    have hr0x := idx_ints R[k] 0 hrl
    have hfcx := idx_ints f (col + 2) hfc
    rw [e2] at hfcx
    have e0 : ((0 : Nat) : Int) = 0 := rfl
    rw [e0] at hf0x hr0x
    have mo : ∀ a b : Int, Bd E a → Bd E b → MP.MulOk a b := fun a b ha hb => ha.mulOk hb (by omega)
    have m00 := mo f[0] R[k][0] (bf _ (List.getElem_mem hf0)) (br _ (List.getElem_mem hrl))
    have mlc := mo R[k][col + 2] f[col + 2] (br _ (List.getElem_mem hc2)) (bf _ (List.getElem_mem hfc))
    have hc := compI (st := tabS st n R I O junk) (k := n + 2) (g := fun j => f.getD 0 0 * R[k].getD j 0 + R[k].getD (col + 2) 0 * f.getD j 0) (body := turnB (cfgOf pk.pg fuel (callF pk.pg chkC fuel (d + 1))) [11] ce30_1 ct30_1 .nil [some (.ref st.length), some (.int at'), some (.int col), some e3, some e4, some (intsL f), some (.int k), some (intsL R[k]), some (.int R[k][col + 2]), s9, none, none]) (by
      intro j hj
      have j1 : j < f.length := by omega
      have j2 : j < R[k].length := by omega
      have x1 := idx_ints f j j1 (tabS st n R I O junk)
      have x2 := idx_ints R[k] j j2 (tabS st n R I O junk)
      have q1 : f.getD j 0 = f[j] := by simp [j1]
      have q2 : R[k].getD j 0 = R[k][j] := by simp [j2]
      have mA := mo f[0] R[k][j] (bf _ (List.getElem_mem hf0)) (br _ (List.getElem_mem j2))
      have mB := mo R[k][col + 2] f[j] (br _ (List.getElem_mem hc2)) (bf _ (List.getElem_mem j1))
      rw [gf0, q2, hg, q1]
      unfold ct30_1
      rw [turn_name]
      simp [ce30_1, hf0x, x1, x2, mA, mB])
    generalize hx0 : (List.range (n + 2)).map (fun j => f.getD 0 0 * R[k].getD j 0 + R[k].getD (col + 2) 0 * f.getD j 0) = xs0 at hc
    have hxl : xs0.length = n + 2 := by rw [← hx0]; simp
    have t1 : (tabS st n R I O (junk ++ [.lst (xs0.map D.int)]))[st.length + 4 + junk.length]? = some (.lst (xs0.map D.int)) := tab_junk junk [] _
    have u1 := setD_end t1 0 (by omega) (f[0] * R[k][0])
    rw [tab_junk_set junk []] at u1
    generalize hx1 : xs0.set 0 (f[0] * R[k][0]) = xs1 at u1
    have hx1l : xs1.length = n + 2 := by rw [← hx1, List.length_set]; exact hxl
    have t2 : (tabS st n R I O (junk ++ [.lst (xs1.map D.int)]))[st.length + 4 + junk.length]? = some (.lst (xs1.map D.int)) := tab_junk junk [] _
    have u2 := setD_end t2 (col + 2) (by omega) (R[k][col + 2] * f[col + 2])
    rw [tab_junk_set junk []] at u2
    generalize hx2 : xs1.set (col + 2) (R[k][col + 2] * f[col + 2]) = xs2 at u2
    have hx2l : xs2.length = n + 2 := by rw [← hx2, List.length_set]; exact hx1l
    have t3 : (tabS st n R I O (junk ++ [.lst (xs2.map D.int)]))[st.length + 4 + junk.length]? = some (.lst (xs2.map D.int)) := tab_junk junk [] _
    have hne : f[0] * R[k][0] ≠ 0 := by
      rw [← gf0, ← gr0]
      exact Int.mul_ne_zero hpos hr0
    obtain ⟨s', hs', hlow⟩ := ev_lowRef (fuel := fuel) (d := d) xs2 (B := E + E) (by omega) ⟨f[0] * R[k][0], by
      rw [← hx2, ← hx1]
      refine List.mem_iff_getElem.mpr ⟨0, by simp [hxl], ?_⟩
      rw [List.getElem_set_ne (by omega)]
      simp, hne, (bf _ (List.getElem_mem hf0)).mul (br _ (List.getElem_mem hrl))⟩ t3 (by omega)
    have hmix : mlow xs2 = stepR f at' col k R[k] := by
      unfold stepR mixR
      rw [if_pos ⟨h1, h4⟩, hr, hx0, gf0, gr0, hg, gfc, hx1, hx2]
    rw [hmix] at hlow
    obtain ⟨junk', hj⟩ : ∃ junk', s' = tabS st n R I O junk' := by
      rcases hs' with h | h
      · exact ⟨_, h⟩
      · rw [tab_junk_set junk []] at h
        exact ⟨_, h⟩
    rw [hj] at hlow
    have u3 := set_rowsT (st := st) (n := n) (I := I) (O := O) (junk := junk') k (stepR f at' col k R[k]) hk
    refine ⟨junk', some (intsL R[k]), some (.int R[k][col + 2]), some (.ref (st.length + 4 + junk.length)), ?_⟩
    have e02 : ((0 : Nat) : Int) = 0 := rfl
    rw [e02] at u1
    rw [e2] at u2
    have e7 : ((n + 2 : Nat) : Int) = (R[k].length : Int) := by omega
    rw [e7] at hc
    unfold ce30_1 ct30_1 at hc
    unfold lt30_0 lb30_0
    have hs : small R[k].length := by unfold small; omega
    simp [idx_rowsT k hk, hx, h5, hlead, hs, hc, hf0x, hr0x, hfcx, m00, mlc, setK, u1, u2, hlow, u3]
  · refine ⟨junk, some (intsL R[k]), some (.int R[k][col + 2]), s9, ?_⟩
    have hst : stepR f at' col k R[k] = R[k] := by
      unfold stepR
      rw [if_neg hcond]
    have hset : R.set k R[k] = R := by simp
    rw [hst, hset]
    unfold lt30_0 lb30_0
    by_cases h1 : k = at'
    · subst h1
      simp [idx_rowsT k hk, hx]
    · have h3 : R[k][col + 2] = 0 := by
        rw [hg] at hcond
        by_cases h4 : R[k][col + 2] = 0
        · exact h4
        · exact absurd ⟨h1, h4⟩ hcond
      have h5 : ¬ ((k : Int) = (at' : Int)) := by omega
      rw [h3] at hx
      simp [idx_rowsT k hk, hx, h5, h3]
end W86
set_option linter.all false
set_option maxRecDepth 100000
set_option maxHeartbeats 2000000
/-! W19: a turn. -/
namespace W86
open PySem MP I86
variable {fuel d : Nat} {st junk : St} {n : Nat} {R : List (List Int)} {I O : List Int} {m : Bool}
def gR (R : List (List Int)) (f : List Int) (at' col i : Nat) : List (List Int) := (List.range R.length).map fun k => if k < i then stepR f at' col k (R.getD k []) else R.getD k []
theorem gR_len (f : List Int) (at' col i : Nat) : (gR R f at' col i).length = R.length := by simp [gR]
theorem gR_0 (f : List Int) (at' col : Nat) : gR R f at' col 0 = R := by
  refine List.ext_getElem (by simp [gR]) fun k h1 h2 => ?_
  simp [gR, h2]
theorem gR_at (f : List Int) (at' col i : Nat) (h : i < R.length) : (gR R f at' col i)[i]'(by rw [gR_len]; exact h) = R[i] := by
  simp [gR, h]
theorem gR_set (f : List Int) (at' col i : Nat) (h : i < R.length) : (gR R f at' col i).set i (stepR f at' col i R[i]) = gR R f at' col (i + 1) := by
  refine List.ext_getElem (by simp [gR]) fun k h1 h2 => ?_
  rw [List.getElem_set]
  by_cases e : i = k
  · subst e
    rw [if_pos rfl]
    simp [gR, h]
  · rw [if_neg e]
    simp only [gR, List.getElem_map, List.getElem_range]
    by_cases h3 : k < i
    · rw [if_pos h3, if_pos (by omega)]
    · rw [if_neg h3, if_neg (by omega)]
theorem turn_loop {at' col : Nat} {f : List Int} {E : Nat} (hE : E ≤ 2000) (hr : ∀ r ∈ R, r.length = n + 2) (hf : f.length = n + 2) (hcol : col < n) (hn : n ≤ 1000) (hfu : n + 2 < fuel)
    (br : ∀ r ∈ R, ∀ a ∈ r, Bd E a) (bf : ∀ a ∈ f, Bd E a) (hpos : f.getD 0 0 ≠ 0) (hr0 : ∀ r ∈ R, r.getD 0 0 ≠ 0) (e3 e4 : D) :
    ∀ (m i : Nat) (junk : St) (s6 s7 s8 s9 : Option D), i + m = R.length → ∃ (junk' : St) (l6 l7 l8 l9 : Option D), forL (stepB (cfgOf pk.pg fuel (callF pk.pg chkC fuel (d + 1))) lt30_0 lb30_0) (rangeL i R.length) [some (.ref st.length), some (.int at'), some (.int col), some e3, some e4, some (intsL f), s6, s7, s8, s9, none, none] (tabS st n (gR R f at' col i) I O junk) =
      .next [some (.ref st.length), some (.int at'), some (.int col), some e3, some e4, some (intsL f), l6, l7, l8, l9, none, none] (tabS st n (gR R f at' col R.length) I O junk')
  | 0, i, junk, s6, s7, s8, s9, hi => by
    rw [range_nil _ _ (by omega)]
    have : i = R.length := by omega
    subst this
    exact ⟨junk, s6, s7, s8, s9, by unfold forL; rfl⟩
  | m + 1, i, junk, s6, s7, s8, s9, hi => by
    have h0 : i < R.length := by omega
    have h1 : i < (gR R f at' col i).length := by rw [gR_len]; exact h0
    have hat := gR_at (R := R) f at' col i h0
    obtain ⟨j1, l7, l8, l9, hs⟩ := turn_step (fuel := fuel) (d := d) (st := st) (junk := junk) (n := n) (R := gR R f at' col i) (I := I) (O := O) (at' := at') (col := col) (k := i) (f := f) hE h1 (by rw [hat]; exact hr _ (List.getElem_mem h0)) hf hcol hn hfu (by rw [hat]; exact br _ (List.getElem_mem h0)) bf hpos (by rw [hat]; exact hr0 _ (List.getElem_mem h0)) e3 e4 s6 s7 s8 s9
    rw [hat, gR_set (R := R) f at' col i h0] at hs
    obtain ⟨j2, l6', l7', l8', l9', ih⟩ := turn_loop (at' := at') (col := col) hE hr hf hcol hn hfu br bf hpos hr0 e3 e4 m (i + 1) j1 (some (.int i)) l7 l8 l9 (by omega)
    refine ⟨j2, l6', l7', l8', l9', ?_⟩
    rw [range_cons _ _ (by omega)]
    unfold forL
    rw [hs]
    have e2 : ((i + 1 : Nat) : Int) = (i : Int) + 1 := by omega
    rw [e2] at ih
    exact ih
/-- the row that becomes basic, before its common part goes -/
def preF (r : List Int) (col : Nat) : List Int := ((r.map fun e => -(sgnR r col) * e).set 0 (sgnR r col * r.getD (col + 2) 0)).set (col + 2) (sgnR r col * r.getD 0 0)
theorem freshR_eq (r : List Int) (col : Nat) : freshR r col = mlow (preF r col) := rfl
theorem preF_len (r : List Int) (col : Nat) : (preF r col).length = r.length := by simp [preF]
theorem mlow_len (r : List Int) : (mlow r).length = r.length := by simp [mlow]
end W86
set_option linter.all false
set_option maxRecDepth 100000
set_option maxHeartbeats 2000000
/-! W20: a turn, whole. -/
namespace W86
open PySem MP I86
variable {fuel d : Nat} {st junk : St} {n : Nat} {R : List (List Int)} {I O : List Int} {m : Bool}
/-- two places take two values -/
theorem ex_subs2 {c : Cfg} {p q p1 p2 : Pos} {kk : Nat} {o i o' i' e : MP.E} {x : Option D} {env : En} {s s1 s2 s3 : St} {d1 d2 x1 y1 x2 y2 : D} (he : ev c e (x :: env) s = .ok (.tup [d1, d2]) s1) (h1 : ev c o (x :: env) s1 = .ok x1 s1) (h2 : ev c i (x :: env) s1 = .ok y1 s1) (h3 : setD x1 y1 d1 s1 = some s2)
    (h4 : ev c o' (x :: env) s2 = .ok x2 s2) (h5 : ev c i' (x :: env) s2 = .ok y2 s2) (h6 : setD x2 y2 d2 s2 = some s3) :
    ex c (.asg p (.subs q kk [(p1, o, i), (p2, o', i')]) e) (x :: env) s = .next (x :: env) s3 := by
  rw [ex, he]
  show asgG c (.subs q kk [(p1, o, i), (p2, o', i')]) (.tup [d1, d2]) (x :: env) s1 = _
  unfold asgG
  dsimp only
  rw [if_pos (show [d1, d2].length = [(p1, o, i), (p2, o', i')].length from rfl)]
  have e1 : asgSubs c [(p1, o, i), (p2, o', i')] [d1, d2] (x :: env) s1 = .ok () s3 := by
    unfold asgSubs
    rw [h1]
    show ((ev c i (x :: env) s1).bind _) = _
    rw [h2]
    show (match setD x1 y1 d1 s1 with | some s' => asgSubs c [(p2, o', i')] [d2] (x :: env) s' | none => .bad) = _
    rw [h3]
    dsimp only
    unfold asgSubs
    rw [h4]
    show ((ev c i' (x :: env) s2).bind _) = _
    rw [h5]
    show (match setD x2 y2 d2 s2 with | some s' => asgSubs c [] [] (x :: env) s' | none => .bad) = _
    rw [h6]
    dsimp only
    unfold asgSubs
    rfl
  rw [e1]
  rfl
/-- the fresh row, up to the loop -/
theorem fresh_comp {E : Nat} (hE : E ≤ 2000) (r : List Int) (sg : Int) (hsg : sg = 1 ∨ sg = -1) (hb : ∀ a ∈ r, Bd E a) (a0 a1 a2 : D) (s : St) {call : Nat → List D → St → Res D} :
    compL (turnB (cfgOf pk.pg fuel call) [10] ce30_0 ct30_0 .nil [some a0, some a1, some a2, some (intsL r), some (.int sg), none, none, none, none, none, none, none]) (r.map D.int) [] s = .ok ((r.map fun e => -sg * e).map D.int) s := by
  rw [compL_all (f := fun x => match x with | .int i => .int (-sg * i) | x => x) _ (fun x hx => ?_)]
  · congr 1
    rw [List.map_map, List.map_map]
    rfl
  · obtain ⟨i, hi, rfl⟩ := List.mem_map.mp hx
    have mo : MP.MulOk (-sg) i := by
      have h1 : Bd 1 (-sg) := by
        unfold Bd
        rcases hsg with rfl | rfl <;> decide
      exact h1.mulOk (hb i hi) (by omega)
    unfold ct30_0
    rw [turn_name]
    simp [ce30_0, mo]
end W86
set_option linter.all false
set_option maxRecDepth 100000
set_option maxHeartbeats 2000000
/-! W21: a turn, whole. -/
namespace W86
open PySem MP I86
variable {fuel d : Nat} {st junk : St} {n : Nat} {R : List (List Int)} {I O : List Int} {m : Bool}
theorem sgnR_or (r : List Int) (col : Nat) : sgnR r col = 1 ∨ sgnR r col = -1 := by
  unfold sgnR
  split
  · exact .inr rfl
  · exact .inl rfl
theorem turnR_eq {at' col : Nat} (ha : at' < R.length) : (gR R (freshR R[at'] col) at' col R.length).set at' (freshR R[at'] col) = turnR R at' col := by
  have hg : R.getD at' [] = R[at'] := by simp [ha]
  refine List.ext_getElem (by simp [gR, turnR]) fun k h1 h2 => ?_
  have hk : k < R.length := by simpa [turnR] using h2
  rw [List.getElem_set]
  have et : (turnR R at' col)[k] = newR (freshR R[at'] col) at' col k (R.getD k []) := by
    simp only [turnR, List.getElem_map, List.getElem_range, hg]
  rw [et]
  unfold newR
  by_cases e : at' = k
  · rw [if_pos e, if_pos e.symm]
  · rw [if_neg e, if_neg (fun z => e z.symm)]
    simp only [gR, List.getElem_map, List.getElem_range, hk, if_true]
    unfold stepR
    by_cases h0 : (R.getD k []).getD (col + 2) 0 = 0
    · rw [if_pos h0, if_neg (fun z => z.2 h0)]
    · rw [if_neg h0, if_pos ⟨fun z => e z.symm, h0⟩]
theorem mlow_mem {r : List Int} {a : Int} (h : a ∈ mlow r) : ∃ b ∈ r, a = b / (gcdL r : Int) := by
  obtain ⟨b, hb, rfl⟩ := List.mem_map.mp h
  exact ⟨b, hb, rfl⟩
theorem mlow_bd {E : Nat} {r : List Int} (h : ∀ a ∈ r, Bd E a) : ∀ a ∈ mlow r, Bd E a := by
  intro a ha
  obtain ⟨b, hb, rfl⟩ := mlow_mem ha
  have hd := gcdL_dvd r b hb
  unfold Bd
  rw [Int.natAbs_ediv_of_dvd hd]
  exact Nat.lt_of_le_of_lt (Nat.div_le_self _ _) (h b hb)
theorem div_ne {a g : Int} (h : g ∣ a) (ha : a ≠ 0) : a / g ≠ 0 := by
  intro z
  have := Int.ediv_mul_cancel h
  rw [z, Int.zero_mul] at this
  exact ha this.symm
theorem mlow_getD {r : List Int} (k : Nat) (hk : k < r.length) : (mlow r).getD k 0 = r.getD k 0 / (gcdL r : Int) := by
  have : k < (mlow r).length := by rw [mlow_len]; exact hk
  simp [mlow, hk]
end W86
set_option linter.all false
set_option maxRecDepth 100000
set_option maxHeartbeats 2000000
/-! W22: Table.turn. -/
namespace W86
open PySem MP I86
variable {fuel d : Nat} {st junk : St} {n : Nat} {R : List (List Int)} {I O : List Int} {m : Bool}
theorem ev_turn {at' col : Nat} {E : Nat} (hE : E ≤ 1000) (ha : at' < R.length) (haI : at' < I.length) (hO : O.length = n) (hr : ∀ r ∈ R, r.length = n + 2) (hcol : col < n) (hn : n ≤ 1000) (hR : R.length ≤ 1000) (hfu : n + 2 < fuel)
    (br : ∀ r ∈ R, ∀ a ∈ r, Bd E a) (hp : (R[at']).getD (col + 2) 0 ≠ 0) (hr0 : ∀ r ∈ R, r.getD 0 0 ≠ 0) :
    ∃ junk', callF pk.pg chkC fuel (d + 2) 30 [.ref st.length, .int at', .int col] (tabS st n R I O junk) = .ok .non (tabS st n (turnR R at' col) (I.set at' (O.getD col 0)) (O.set col (I.getD at' 0)) junk') := by
  have hrl := hr _ (List.getElem_mem ha)
  have hbr := br _ (List.getElem_mem ha)
  have hc2 : col + 2 < R[at'].length := by omega
  have h0 : 0 < R[at'].length := by omega
  have e2 : ((col + 2 : Nat) : Int) = (col : Int) + 2 := by omega
  have hx := idx_ints R[at'] (col + 2) hc2
  rw [e2] at hx
  have hx0 := idx_ints R[at'] 0 h0
  have e0 : ((0 : Nat) : Int) = 0 := rfl
  rw [e0] at hx0
  have hg : R[at'].getD (col + 2) 0 = R[at'][col + 2] := by simp [hc2]
  have hg0 : R[at'].getD 0 0 = R[at'][0] := by simp [h0]
  have hsg := sgnR_or R[at'] col
  -- the fresh row
  have hcomp := fresh_comp (fuel := fuel) (call := callF pk.pg chkC fuel (d + 1)) (E := E) (by omega) R[at'] (sgnR R[at'] col) hsg hbr (.ref st.length) (.int at') (.int col) (tabS st n R I O junk)
  have bsg : Bd 1 (sgnR R[at'] col) := by
    unfold Bd
    rcases hsg with h | h <;> rw [h] <;> decide
  have m1 : MP.MulOk (sgnR R[at'] col) R[at'][col + 2] := bsg.mulOk (hbr _ (List.getElem_mem hc2)) (by omega)
  have m2 : MP.MulOk (sgnR R[at'] col) R[at'][0] := bsg.mulOk (hbr _ (List.getElem_mem h0)) (by omega)
  generalize hF0 : R[at'].map (fun e => -(sgnR R[at'] col) * e) = F0 at hcomp
  have hF0l : F0.length = n + 2 := by rw [← hF0, List.length_map]; exact hrl
  have t1 : (tabS st n R I O (junk ++ [.lst (F0.map D.int)]))[st.length + 4 + junk.length]? = some (.lst (F0.map D.int)) := tab_junk junk [] _
  have u1 := setD_end t1 0 (by omega) (sgnR R[at'] col * R[at'][col + 2])
  rw [tab_junk_set junk [], e0] at u1
  generalize hF1 : F0.set 0 (sgnR R[at'] col * R[at'][col + 2]) = F1 at u1
  have hF1l : F1.length = n + 2 := by rw [← hF1, List.length_set]; exact hF0l
  have t2 : (tabS st n R I O (junk ++ [.lst (F1.map D.int)]))[st.length + 4 + junk.length]? = some (.lst (F1.map D.int)) := tab_junk junk [] _
  have u2 := setD_end t2 (col + 2) (by omega) (sgnR R[at'] col * R[at'][0])
  rw [tab_junk_set junk [], e2] at u2
  generalize hF2 : F1.set (col + 2) (sgnR R[at'] col * R[at'][0]) = F2 at u2
  have hpre : F2 = preF R[at'] col := by
    unfold preF
    rw [hF0, hg, hg0, hF1, hF2]
  have t3 : (tabS st n R I O (junk ++ [.lst (F2.map D.int)]))[st.length + 4 + junk.length]? = some (.lst (F2.map D.int)) := tab_junk junk [] _
  have hv : sgnR R[at'] col * R[at'][col + 2] ≠ 0 := by
    refine Int.mul_ne_zero ?_ (by rw [← hg]; exact hp)
    rcases hsg with h | h <;> rw [h] <;> decide
  have hF20 : F2.getD 0 0 = sgnR R[at'] col * R[at'][col + 2] := by
    rw [← hF2, ← hF1]
    have h1 : 0 < F0.length := by omega
    simp [List.getElem?_set, h1]
  have h0m : sgnR R[at'] col * R[at'][col + 2] ∈ F2 := by
    have h1 : 0 < F2.length := by rw [← hF2, List.length_set]; omega
    have : F2.getD 0 0 = F2[0] := by simp [h1]
    rw [← hF20, this]
    exact List.getElem_mem h1
  have hF2l : F2.length = n + 2 := by rw [← hF2, List.length_set]; exact hF1l
  have bF : ∀ a ∈ F2, Bd (E + 1) a := by
    intro a hm
    rw [← hF2] at hm
    rcases List.mem_or_eq_of_mem_set hm with hm | rfl
    · rw [← hF1] at hm
      rcases List.mem_or_eq_of_mem_set hm with hm | rfl
      · rw [← hF0] at hm
        obtain ⟨b, hb, rfl⟩ := List.mem_map.mp hm
        exact (bsg.neg.mul (hbr b hb)).mono (by omega)
      · exact (bsg.mul (hbr _ (List.getElem_mem hc2))).mono (by omega)
    · exact (bsg.mul (hbr _ (List.getElem_mem h0))).mono (by omega)
  obtain ⟨s', hs', hlow⟩ := ev_lowRef (fuel := fuel) (d := d) F2 (B := E + 1) (by omega) ⟨_, h0m, hv, bF _ h0m⟩ t3 (by omega)
  have hfr : mlow F2 = freshR R[at'] col := by rw [hpre]; rfl
  rw [hfr] at hlow
  obtain ⟨j1, hj1⟩ : ∃ j1, s' = tabS st n R I O j1 := by
    rcases hs' with h | h
    · exact ⟨_, h⟩
    · rw [tab_junk_set junk []] at h
      exact ⟨_, h⟩
  rw [hj1] at hlow
  have bf : ∀ a ∈ freshR R[at'] col, Bd (E + 1) a := by rw [← hfr]; exact mlow_bd bF
  have hfl : (freshR R[at'] col).length = n + 2 := by rw [← hfr, mlow_len]; exact hF2l
  have hpos : (freshR R[at'] col).getD 0 0 ≠ 0 := by
    rw [← hfr, mlow_getD 0 (by omega), hF20]
    exact div_ne (gcdL_dvd F2 _ h0m) hv
  obtain ⟨j2, l6, l7, l8, l9, hloop⟩ := turn_loop (fuel := fuel) (d := d) (st := st) (I := I) (O := O) (at' := at') (col := col) (R := R) (n := n) (E := E + 1) (by omega) hr hfl hcol hn hfu (fun r hr' a ha' => (br r hr' a ha').mono (by omega)) bf hpos hr0 (intsL R[at']) (.int (sgnR R[at'] col)) R.length 0 j1 none none none none (by omega)
  rw [gR_0, e0] at hloop
  have hgl : at' < (gR R (freshR R[at'] col) at' col R.length).length := by rw [gR_len]; exact ha
  have u3 := set_rowsT (st := st) (n := n) (I := I) (O := O) (junk := j2) at' (freshR R[at'] col) hgl
  rw [turnR_eq ha] at u3
  have hcO : col < O.length := by omega
  have oI := idx_inner (st := st) (n := n) (R := turnR R at' col) (I := I) (O := O) (junk := j2) at' haI
  have oO := idx_outer (st := st) (n := n) (R := turnR R at' col) (I := I) (O := O) (junk := j2) col hcO
  have gI : I.getD at' 0 = I[at'] := by simp [haI]
  have gO : O.getD col 0 = O[col] := by simp [hcO]
  have u4 := set_innerT (st := st) (n := n) (R := turnR R at' col) (I := I) (O := O) (junk := j2) at' O[col] haI
  have u5 := set_outerT (st := st) (n := n) (R := turnR R at' col) (I := I.set at' O[col]) (O := O) (junk := j2) col I[at'] hcO
  have hsub : ∀ (p q p1 p2 pa pb pc pd pe pf pg ph pi pj pk' pl pm po pq' : Pos) (kk k2 : Nat), ex (cfgOf pk.pg fuel (callF pk.pg chkC fuel (d + 1))) (.asg p (.subs q kk [(p1, .attr pa (.var pb 0) 12, .var pc 1), (p2, .attr pd (.var pe 0) 13, .var pf 2)]) (.tup pg k2 (.cons (.idx ph (.attr pi (.var pj 0) 13) (.var pk' 2)) (.cons (.idx pl (.attr pm (.var po 0) 12) (.var pq' 1)) .nil))))
      [some (.ref st.length), some (.int at'), some (.int col), some (intsL R[at']), some (.int (sgnR R[at'] col)), some (intsL (freshR R[at'] col)), l6, l7, l8, l9, none, none] (tabS st n (turnR R at' col) I O j2) =
      .next [some (.ref st.length), some (.int at'), some (.int col), some (intsL R[at']), some (.int (sgnR R[at'] col)), some (intsL (freshR R[at'] col)), l6, l7, l8, l9, none, none] (tabS st n (turnR R at' col) (I.set at' O[col]) (O.set col I[at']) j2) := by
    intros
    refine ex_subs2 (d1 := .int O[col]) (d2 := .int I[at']) (s1 := tabS st n (turnR R at' col) I O j2) (s2 := tabS st n (turnR R at' col) (I.set at' O[col]) O j2) ?_ (x1 := .ref (st.length + 2)) ?_ (y1 := .int at') ?_ u4 (x2 := .ref (st.length + 3)) ?_ (y2 := .int col) ?_ u5
    all_goals simp [oI, oO]
  refine ⟨j2, ?_⟩
  rw [gI, gO]
  rw [call_eq 30 f30 rfl _ [.ref st.length, .int at', .int col] rfl]
  unfold ce30_0 ct30_0 at hcomp
  unfold lt30_0 lb30_0 at hloop
  have hs : small R.length := by unfold small; omega
  have wI : wkD (tabS st n R I O junk) (intsL R[at']) = some (.items (R[at'].map D.int)) := rfl
  by_cases hneg : R[at'][col + 2] < 0
  · have es : sgnR R[at'] col = -1 := by
      unfold sgnR
      rw [hg, if_pos hneg]
    rw [es] at hcomp m1 m2 u1 u2 hloop hsub
    simp only [Int.neg_mul, Int.one_mul] at u1 u2
    unfold runF f30 b30
    simp [idx_rowsT at' ha, hx, hx0, hneg, wI, hcomp, m1, m2, setK, u1, u2, hlow, hs, hloop, u3, hsub]
  · have es : sgnR R[at'] col = 1 := by
      unfold sgnR
      rw [hg, if_neg hneg]
    rw [es] at hcomp m1 m2 u1 u2 hloop hsub
    simp only [Int.neg_mul, Int.one_mul] at u1 u2
    unfold runF f30 b30
    simp [idx_rowsT at' ha, hx, hx0, hneg, wI, hcomp, m1, m2, setK, u1, u2, hlow, hs, hloop, u3, hsub]
end W86
set_option linter.all false
/-! C1: least-index criss-cross comes to no basis twice. Plain. -/
namespace CC
def sumL (W : List Int) (g : Int → Rat) : Rat := match W with
  | [] => 0
  | w :: W => g w + sumL W g
theorem sumL_nonneg {g : Int → Rat} : ∀ {W : List Int}, (∀ w ∈ W, 0 ≤ g w) → 0 ≤ sumL W g
  | [], _ => by show (0 : Rat) ≤ 0; grind
  | a :: W, h => by
    have ih := sumL_nonneg (W := W) fun w hw => h w (List.mem_cons_of_mem _ hw)
    have h1 := h a List.mem_cons_self
    show 0 ≤ g a + sumL W g
    grind
theorem sumL_pos {g : Int → Rat} {q : Int} (hq : 0 < g q) : ∀ {W : List Int}, (∀ w ∈ W, 0 ≤ g w) → q ∈ W → 0 < sumL W g
  | [], _, h => by cases h
  | a :: W, h, hm => by
    have h1 := h a List.mem_cons_self
    have h2 := sumL_nonneg (W := W) fun w hw => h w (List.mem_cons_of_mem _ hw)
    show 0 < g a + sumL W g
    rcases List.mem_cons.mp hm with rfl | hm
    · grind
    · have ih := sumL_pos hq (W := W) (fun w hw => h w (List.mem_cons_of_mem _ hw)) hm
      grind
theorem sumL_neg (g : Int → Rat) : ∀ W : List Int, sumL W (fun w => -g w) = -sumL W g
  | [] => by show (0 : Rat) = -0; grind
  | a :: W => by
    show -g a + sumL W (fun w => -g w) = -(g a + sumL W g)
    rw [sumL_neg g W]; grind
structure S where
  out : List Int
  al : Int → Int → Rat
/-- v is basic -/
def S.inn (s : S) (v : Int) : Bool := !s.out.contains v
theorem S.inn_f {s : S} {v : Int} : s.inn v = false ↔ v ∈ s.out := by simp [S.inn]
structure Ok (names : List Int) (V : (Int → Rat) → Prop) (s : S) : Prop where
  sub : ∀ v ∈ s.out, v ∈ names
  row : ∀ x, V x → ∀ v, (v = -1 ∨ (v ∈ names ∧ s.inn v = true)) → x v = s.al v (-2) * x (-2) + sumL s.out (fun w => s.al v w * x w)
  col : ∀ w, (w = -2 ∨ w ∈ s.out) → ∃ u, V u ∧ u (-2) = (if w = -2 then 1 else 0) ∧ (∀ w' ∈ s.out, u w' = if w' = w then 1 else 0) ∧ (∀ v, (v = -1 ∨ (v ∈ names ∧ s.inn v = true)) → u v = s.al v w)
/-- not wrong -/
def Fine (s : S) (v : Int) : Prop := if s.inn v = true then 0 ≤ s.al v (-2) else 0 ≤ s.al (-1) v
inductive Step (names : List Int) (s s' : S) : Prop
  | inner (p q : Int) (hp : p ∈ names) (hq : q ∈ s.out) (ip : s.inn p = true) (wp : s.al p (-2) < 0) (low : ∀ v ∈ names, v < p → Fine s v) (pos : 0 < s.al p q)
      (least : ∀ w ∈ s.out, w < q → s.al p w ≤ 0) (new : ∀ v ∈ names, s'.inn v = if v = p then false else if v = q then true else s.inn v)
  | outer (t q : Int) (ht : t ∈ s.out) (hq : q ∈ names) (iq : s.inn q = true) (wt : s.al (-1) t < 0) (low : ∀ v ∈ names, v < t → Fine s v) (neg : s.al q t < 0)
      (least : ∀ w ∈ names, s.inn w = true → w < q → 0 ≤ s.al w t) (new : ∀ v ∈ names, s'.inn v = if v = q then false else if v = t then true else s.inn v)
section
variable {names : List Int} {V : (Int → Rat) → Prop} {s1 s2 : S} {q : Int}
/-- what is known where q enters -/
def Ent (names : List Int) (s : S) (q : Int) : Prop := q ∈ s.out ∧ ((s.al (-1) q < 0 ∧ ∀ v ∈ names, v < q → Fine s v) ∨
  ∃ p, p ∈ names ∧ s.inn p = true ∧ p < q ∧ s.al p (-2) < 0 ∧ 0 < s.al p q ∧ ∀ w ∈ s.out, w < q → s.al p w ≤ 0)
/-- where q leaves -/
def Lea (names : List Int) (s : S) (q : Int) : Prop := q ∈ names ∧ s.inn q = true ∧ ((s.al q (-2) < 0 ∧ ∀ v ∈ names, v < q → Fine s v) ∨
  ∃ t, t ∈ s.out ∧ s.al (-1) t < 0 ∧ t < q ∧ s.al q t < 0 ∧ ∀ w ∈ names, s.inn w = true → w < q → 0 ≤ s.al w t)
theorem mul_nn {a b : Rat} (ha : 0 ≤ a) (hb : 0 ≤ b) : 0 ≤ a * b := Rat.mul_nonneg ha hb
theorem mul_pp {a b : Rat} (ha : 0 < a) (hb : 0 < b) : 0 < a * b := Rat.mul_pos ha hb
/-- the clash -/
theorem clash (hn : ∀ v ∈ names, 0 ≤ v) (o1 : Ok names V s1) (o2 : Ok names V s2) (hi : ∀ v ∈ names, q < v → s1.inn v = s2.inn v) (e : Ent names s1 q) (l : Lea names s2 q) : False := by
  obtain ⟨hq1, e⟩ := e
  obtain ⟨hqn, hq2, l⟩ := l
  have q0 := hn q hqn
  -- the vector of the second state
  have hvec : ∃ u : Int → Rat, V u ∧ (∀ w ∈ s1.out, q < w → u w = 0) ∧ (∀ v ∈ names, v < q → 0 ≤ u v) ∧ u q < 0 ∧ 
      ((u (-2) = 1 ∧ u (-1) = s2.al (-1) (-2) ∧ (∀ v ∈ names, v < q → Fine s2 v)) ∨ (u (-2) = 0 ∧ u (-1) < 0)) := by
    rcases l with ⟨l1, l2⟩ | ⟨t, t1, t2, t3, t4, t5⟩
    · obtain ⟨u, u1, u2, u3, u4⟩ := o2.col (-2) (.inl rfl)
      refine ⟨u, u1, fun w hw hqw => ?_, fun v hv hvq => ?_, ?_, .inl ⟨by rw [u2, if_pos rfl], u4 (-1) (.inl rfl), l2⟩⟩
      · have hw' := o1.sub w hw
        have h2 : s2.inn w = false := by rw [← hi w hw' hqw]; exact S.inn_f.mpr hw
        rw [u3 w (S.inn_f.mp h2), if_neg (by have := hn w hw'; omega)]
      · cases hc : s2.inn v with
        | false =>
          rw [u3 v (S.inn_f.mp hc)]
          have := hn v hv
          rw [if_neg (by omega)]
          exact Rat.le_refl
        | true =>
          rw [u4 v (.inr ⟨hv, hc⟩)]
          have := l2 v hv hvq
          unfold Fine at this
          rwa [if_pos hc] at this
      · rw [u4 q (.inr ⟨hqn, hq2⟩)]; exact l1
    · obtain ⟨u, u1, u2, u3, u4⟩ := o2.col t (.inr t1)
      have tn := hn t (o2.sub t t1)
      refine ⟨u, u1, fun w hw hqw => ?_, fun v hv hvq => ?_, ?_, .inr ⟨by rw [u2, if_neg (by omega)], by rw [u4 (-1) (.inl rfl)]; exact t2⟩⟩
      · have hw' := o1.sub w hw
        have h2 : s2.inn w = false := by rw [← hi w hw' hqw]; exact S.inn_f.mpr hw
        rw [u3 w (S.inn_f.mp h2), if_neg (by omega)]
      · cases hc : s2.inn v with
        | false =>
          rw [u3 v (S.inn_f.mp hc)]
          split
          · decide
          · exact Rat.le_refl
        | true =>
          rw [u4 v (.inr ⟨hv, hc⟩)]
          exact t5 v hv hc hvq
      · rw [u4 q (.inr ⟨hqn, hq2⟩)]; exact t4
  obtain ⟨u, u1, u2, u3, u4, u5⟩ := hvec
  rcases e with ⟨e1, e2⟩ | ⟨p, p1, p2, hpq, p3, p4, p5⟩
  · -- the objective row of the first state
    have hrow := o1.row u u1 (-1) (.inl rfl)
    have hsum : 0 < sumL s1.out (fun w => s1.al (-1) w * u w) := by
      refine sumL_pos (q := q) ?_ (fun w hw => ?_) hq1
      · have := mul_pp (a := -s1.al (-1) q) (b := -u q) (by grind) (by grind)
        show 0 < s1.al (-1) q * u q
        grind
      · have hw' := o1.sub w hw
        rcases Int.lt_trichotomy w q with h | h | h
        · have f := e2 w hw' h
          unfold Fine at f
          rw [if_neg (by rw [S.inn_f.mpr hw]; decide)] at f
          exact mul_nn f (u3 w hw' h)
        · subst h
          have := mul_pp (a := -s1.al (-1) w) (b := -u w) (by grind) (by grind)
          show 0 ≤ s1.al (-1) w * u w
          grind
        · show 0 ≤ s1.al (-1) w * u w
          rw [u2 w hw h]; grind
    rcases u5 with ⟨z1, z2, z3⟩ | ⟨z1, z2⟩
    · -- and the other way
      obtain ⟨y, y1, y2, y3, y4⟩ := o1.col (-2) (.inl rfl)
      have hrow2 := o2.row y y1 (-1) (.inl rfl)
      have hsum2 : 0 ≤ sumL s2.out (fun w => s2.al (-1) w * y w) := by
        refine sumL_nonneg fun w hw => ?_
        have hw' := o2.sub w hw
        have hw0 := hn w hw'
        have hwi := S.inn_f.mpr hw
        rcases Int.lt_trichotomy w q with h | h | h
        · have f := z3 w hw' h
          unfold Fine at f
          rw [if_neg (by rw [hwi]; decide)] at f
          refine mul_nn f ?_
          cases hc : s1.inn w with
          | false =>
            rw [y3 w (S.inn_f.mp hc), if_neg (by omega)]
            exact Rat.le_refl
          | true =>
            rw [y4 w (.inr ⟨hw', hc⟩)]
            have := e2 w hw' h
            unfold Fine at this
            rwa [if_pos hc] at this
        · subst h
          rw [hq2] at hwi; cases hwi
        · have h1 : s1.inn w = false := by rw [hi w hw' h]; exact hwi
          show 0 ≤ s2.al (-1) w * y w
          rw [y3 w (S.inn_f.mp h1), if_neg (by omega)]
          grind
      have y5 := y4 (-1) (.inl rfl)
      rw [y2, if_pos rfl] at hrow2
      rw [z1] at hrow
      grind
    · rw [z1] at hrow
      grind
  · -- the row of p
    have hrow := o1.row u u1 p (.inr ⟨p1, p2⟩)
    have hup := u3 p p1 hpq
    have hsum : 0 < sumL s1.out (fun w => -(s1.al p w * u w)) := by
      refine sumL_pos (q := q) ?_ (fun w hw => ?_) hq1
      · have := mul_pp (a := s1.al p q) (b := -u q) p4 (by grind)
        show 0 < -(s1.al p q * u q)
        grind
      · have hw' := o1.sub w hw
        show 0 ≤ -(s1.al p w * u w)
        rcases Int.lt_trichotomy w q with h | h | h
        · have := mul_nn (a := -s1.al p w) (b := u w) (by have := p5 w hw h; grind) (u3 w hw' h)
          grind
        · subst h
          have := mul_pp (a := s1.al p w) (b := -u w) p4 (by grind)
          grind
        · rw [u2 w hw h]; grind
    rw [sumL_neg] at hsum
    rcases u5 with ⟨z1, z2, z3⟩ | ⟨z1, z2⟩
    · rw [z1] at hrow
      grind
    · rw [z1] at hrow
      grind
/-- the greatest of those that P takes -/
theorem greatest {P : Int → Prop} : ∀ {l : List Int}, (∃ v ∈ l, P v) → ∃ q ∈ l, P q ∧ ∀ v ∈ l, q < v → ¬ P v
  | [], ⟨v, h, _⟩ => by cases h
  | a :: l, h => by
    by_cases hl : ∃ v ∈ l, P v
    · obtain ⟨q, q1, q2, q3⟩ := greatest hl
      by_cases ha : P a ∧ q < a
      · refine ⟨a, List.mem_cons_self, ha.1, fun v hv hav hP => ?_⟩
        rcases List.mem_cons.mp hv with rfl | hv
        · omega
        · exact q3 v hv (by omega) hP
      · refine ⟨q, List.mem_cons_of_mem _ q1, q2, fun v hv hav hP => ?_⟩
        rcases List.mem_cons.mp hv with rfl | hv
        · exact ha ⟨hP, hav⟩
        · exact q3 v hv hav hP
    · obtain ⟨v, hv, hP⟩ := h
      rcases List.mem_cons.mp hv with rfl | hv
      · exact ⟨v, List.mem_cons_self, hP, fun w hw hvw hPw => by
          rcases List.mem_cons.mp hw with rfl | hw
          · omega
          · exact hl ⟨w, hw, hPw⟩⟩
      · exact absurd ⟨v, hv, hP⟩ hl
/-- what never changes stays -/
theorem stays {g : Nat → Bool} {a b : Nat} (h : ∀ i, a ≤ i → i < b → g i = g (i + 1)) : ∀ i, a ≤ i → i ≤ b → g i = g a
  | 0, h1, _ => by
    have : a = 0 := by omega
    subst this; rfl
  | i + 1, h1, h2 => by
    by_cases e : a = i + 1
    · rw [e]
    · rw [← h i (by omega) (by omega)]
      exact stays h i (by omega) (by omega)
/-- up at one place, down at another -/
theorem updown {g : Nat → Bool} {a b : Nat} (hg : g a = g b) (hc : ∃ i, a ≤ i ∧ i < b ∧ g i ≠ g (i + 1)) : (∃ i, a ≤ i ∧ i < b ∧ g i = false ∧ g (i + 1) = true) ∧ ∃ i, a ≤ i ∧ i < b ∧ g i = true ∧ g (i + 1) = false := by
  obtain ⟨i, h1, h2, h3⟩ := hc
  have up : ∀ k : Nat, ∀ x : Nat, a ≤ x → x + k ≤ b → (∀ i, a ≤ i → i < b → ¬ (g i = true ∧ g (i + 1) = false)) → g x = true → g (x + k) = true := by
    intro k
    induction k with
    | zero => intro x _ _ _ h; exact h
    | succ k ih =>
      intro x hx hb hn h
      have := ih x hx (by omega) hn h
      cases q : g (x + (k + 1)) with
      | true => rfl
      | false => exact absurd ⟨this, q⟩ (hn (x + k) (by omega) (by omega))
  have dn : ∀ k : Nat, ∀ x : Nat, a ≤ x → x + k ≤ b → (∀ i, a ≤ i → i < b → ¬ (g i = false ∧ g (i + 1) = true)) → g x = false → g (x + k) = false := by
    intro k
    induction k with
    | zero => intro x _ _ _ h; exact h
    | succ k ih =>
      intro x hx hb hn h
      have := ih x hx (by omega) hn h
      cases q : g (x + (k + 1)) with
      | false => rfl
      | true => exact absurd ⟨this, q⟩ (hn (x + k) (by omega) (by omega))
  constructor
  · apply Classical.byContradiction
    intro hn
    have hn' : ∀ i, a ≤ i → i < b → ¬ (g i = false ∧ g (i + 1) = true) := fun i x y z => hn ⟨i, x, y, z.1, z.2⟩
    have d1 := dn (i - a) a (by omega) (by omega) hn'
    have d2 := dn (b - (i + 1)) (i + 1) (by omega) (by omega) hn'
    rw [show a + (i - a) = i by omega] at d1
    rw [show i + 1 + (b - (i + 1)) = b by omega] at d2
    cases q : g i with
    | false =>
      cases q2 : g (i + 1) with
      | false => rw [q, q2] at h3; exact h3 rfl
      | true => exact hn' i h1 h2 ⟨q, q2⟩
    | true =>
      cases q2 : g (i + 1) with
      | false =>
        have := d2 q2
        rw [← hg] at this
        rw [d1 this] at q
        cases q
      | true => rw [q, q2] at h3; exact h3 rfl
  · apply Classical.byContradiction
    intro hn
    have hn' : ∀ i, a ≤ i → i < b → ¬ (g i = true ∧ g (i + 1) = false) := fun i x y z => hn ⟨i, x, y, z.1, z.2⟩
    have d1 := up (i - a) a (by omega) (by omega) hn'
    have d2 := up (b - (i + 1)) (i + 1) (by omega) (by omega) hn'
    rw [show a + (i - a) = i by omega] at d1
    rw [show i + 1 + (b - (i + 1)) = b by omega] at d2
    cases q : g i with
    | false =>
      cases q2 : g (i + 1) with
      | false => rw [q, q2] at h3; exact h3 rfl
      | true =>
        have := d2 q2
        rw [← hg] at this
        rw [d1 this] at q
        cases q
    | true =>
      cases q2 : g (i + 1) with
      | false => exact hn' i h1 h2 ⟨q, q2⟩
      | true => rw [q, q2] at h3; exact h3 rfl
theorem nocycle (hn : ∀ v ∈ names, 0 ≤ v) {s : Nat → S} {T : Nat} (ok : ∀ i, i < T → Ok names V (s i)) (st : ∀ i, i < T → Step names (s i) (s (i + 1))) (a b : Nat) (hab : a < b) (hb : b ≤ T) : ∃ v ∈ names, (s a).inn v ≠ (s b).inn v := by
  apply Classical.byContradiction
  intro hno
  have heq : ∀ v ∈ names, (s a).inn v = (s b).inn v := fun v hv => Classical.byContradiction fun h => hno ⟨v, hv, h⟩
  have hex : ∃ v ∈ names, ∃ i, a ≤ i ∧ i < b ∧ (s i).inn v ≠ (s (i + 1)).inn v := by
    rcases st a (by omega) with ⟨p, q, hp, hq, ip, wp, low, pos, least, new⟩ | ⟨t, q, ht, hq, iq, wt, low, neg, least, new⟩
    · exact ⟨p, hp, a, by omega, hab, by rw [new p hp, if_pos rfl, ip]; decide⟩
    · exact ⟨q, hq, a, by omega, hab, by rw [new q hq, if_pos rfl, iq]; decide⟩
  obtain ⟨q, q1, q2, q3⟩ := greatest hex
  obtain ⟨⟨i, i1, i2, i3, i4⟩, j, j1, j2, j3, j4⟩ := updown (g := fun i => (s i).inn q) (heq q q1) q2
  have hst : ∀ v ∈ names, q < v → (s i).inn v = (s j).inn v := by
    intro v hv hqv
    have h : ∀ i, a ≤ i → i < b → (s i).inn v = (s (i + 1)).inn v := fun i x y => Classical.byContradiction fun z => q3 v hv hqv ⟨i, x, y, z⟩
    have e1 := stays (g := fun i => (s i).inn v) h i i1 (by omega)
    have e2 := stays (g := fun i => (s i).inn v) h j j1 (by omega)
    exact e1.trans e2.symm
  have le : ∀ v ∈ names, (∃ i, a ≤ i ∧ i < b ∧ (s i).inn v ≠ (s (i + 1)).inn v) → v ≤ q := fun v hv h => Classical.byContradiction fun z => q3 v hv (by omega) h
  have oi := ok i (by omega)
  have oj := ok j (by omega)
  refine clash hn oi oj hst ?_ ?_
  · refine ⟨S.inn_f.mp i3, ?_⟩
    rcases st i (by omega) with ⟨p, q', hp, hq, ip, wp, low, pos, least, new⟩ | ⟨t, q', ht, hq, iq, wt, low, neg, least, new⟩
    · have hnp : q ≠ p := by rintro rfl; rw [ip] at i3; cases i3
      have e : q = q' := by
        apply Classical.byContradiction
        intro z
        have := new q q1
        rw [if_neg hnp, if_neg z] at this
        rw [this] at i4
        rw [i3] at i4; cases i4
      subst e
      have hle := le p hp ⟨i, i1, i2, by rw [new p hp, if_pos rfl, ip]; decide⟩
      exact .inr ⟨p, hp, ip, by omega, wp, pos, least⟩
    · have hnq : q ≠ q' := by rintro rfl; rw [iq] at i3; cases i3
      have e : q = t := by
        apply Classical.byContradiction
        intro z
        have := new q q1
        rw [if_neg hnq, if_neg z] at this
        rw [this] at i4
        rw [i3] at i4; cases i4
      subst e
      exact .inl ⟨wt, low⟩
  · refine ⟨q1, j3, ?_⟩
    rcases st j (by omega) with ⟨p, q', hp, hq, ip, wp, low, pos, least, new⟩ | ⟨t, q', ht, hq, iq, wt, low, neg, least, new⟩
    · have e : q = p := by
        apply Classical.byContradiction
        intro z
        have := new q q1
        rw [if_neg z] at this
        rw [this] at j4
        split at j4
        · cases j4
        · rw [j3] at j4; cases j4
      subst e
      exact .inl ⟨wp, low⟩
    · have e : q = q' := by
        apply Classical.byContradiction
        intro z
        have := new q q1
        rw [if_neg z] at this
        rw [this] at j4
        split at j4
        · cases j4
        · rw [j3] at j4; cases j4
      subst e
      have htn := oj.sub t ht
      have hnt : t ≠ q := by
        rintro rfl
        have := S.inn_f.mpr ht
        rw [iq] at this; cases this
      have hle := le t htn ⟨j, j1, j2, by rw [new t htn, if_neg hnt, if_pos rfl, S.inn_f.mpr ht]; decide⟩
      exact .inr ⟨t, ht, wt, by omega, neg, least⟩
end
end CC
set_option linter.all false
/-! C2: pigeonhole; small solutions of integer equations. Plain. -/
namespace CC
theorem holes : ∀ (P Q : Nat) (f : Nat → Nat), (∀ i, i < P → f i < Q) → (∀ i j, i < j → j < P → f i ≠ f j) → P ≤ Q
  | 0, Q, f, _, _ => Nat.zero_le _
  | P + 1, 0, f, h, _ => absurd (h 0 (by omega)) (by omega)
  | P + 1, Q + 1, f, h, inj => by
    have := holes P Q (fun i => if f i = Q then f P else f i) (fun i hi => by
      have h1 := h i (by omega)
      have h2 := h P (by omega)
      have h3 := inj i P hi (by omega)
      split
      · omega
      · omega) (fun i j hij hj => by
      have h1 := inj i j hij (by omega)
      have h2 := inj i P (by omega) (by omega)
      have h3 := inj j P (by omega) (by omega)
      split <;> split <;> omega)
    omega
theorem pigeon {P Q : Nat} {f : Nat → Nat} (h : ∀ i, i < P → f i < Q) (hQ : Q < P) : ∃ i j, i < j ∧ j < P ∧ f i = f j := by
  apply Classical.byContradiction
  intro hn
  have := holes P Q f h fun i j hij hj e => hn ⟨i, j, hij, hj, e⟩
  omega
/-- figures to the base B -/
def dig (B : Nat) : Nat → Nat → List Nat
  | 0, _ => []
  | n + 1, i => i % B :: dig B n (i / B)
theorem dig_len (B : Nat) : ∀ n i, (dig B n i).length = n
  | 0, _ => rfl
  | n + 1, i => by show (dig B n (i / B)).length + 1 = n + 1; rw [dig_len B n]
theorem dig_lt {B : Nat} (hB : 0 < B) : ∀ n i, ∀ x ∈ dig B n i, x < B
  | 0, i, x, h => by cases h
  | n + 1, i, x, h => by
    rcases List.mem_cons.mp h with rfl | h
    · exact Nat.mod_lt _ hB
    · exact dig_lt hB n _ x h
theorem dig_inj {B : Nat} (hB : 0 < B) : ∀ n i j, i < B ^ n → j < B ^ n → dig B n i = dig B n j → i = j
  | 0, i, j, hi, hj, _ => by simp at hi hj; omega
  | n + 1, i, j, hi, hj, h => by
    have h1 : i % B = j % B := (List.cons.inj h).1
    have h2 := (List.cons.inj h).2
    have h3 := dig_inj hB n (i / B) (j / B) (Nat.div_lt_of_lt_mul (by rw [Nat.pow_succ, Nat.mul_comm] at hi; exact hi)) (Nat.div_lt_of_lt_mul (by rw [Nat.pow_succ, Nat.mul_comm] at hj; exact hj)) h2
    rw [← Nat.div_add_mod i B, ← Nat.div_add_mod j B, h1, h3]
def enc (B : Nat) : List Nat → Nat
  | [] => 0
  | x :: xs => x + B * enc B xs
theorem enc_lt {B : Nat} : ∀ xs : List Nat, (∀ x ∈ xs, x < B) → enc B xs < B ^ xs.length
  | [], _ => by simp [enc]
  | x :: xs, h => by
    have ih := enc_lt xs fun y hy => h y (List.mem_cons_of_mem _ hy)
    have hx := h x List.mem_cons_self
    show x + B * enc B xs < B ^ (xs.length + 1)
    rw [Nat.pow_succ]
    have : B * (enc B xs + 1) ≤ B * B ^ xs.length := Nat.mul_le_mul_left _ ih
    rw [Nat.mul_add, Nat.mul_one] at this
    rw [Nat.mul_comm (B ^ xs.length)]
    omega
theorem enc_inj {B : Nat} : ∀ xs ys : List Nat, xs.length = ys.length → (∀ x ∈ xs, x < B) → (∀ x ∈ ys, x < B) → enc B xs = enc B ys → xs = ys
  | [], [], _, _, _, _ => rfl
  | [], _ :: _, h, _, _, _ => by cases h
  | _ :: _, [], h, _, _, _ => by cases h
  | x :: xs, y :: ys, h, hx, hy, e => by
    have e' : x + B * enc B xs = y + B * enc B ys := e
    have x1 := hx x List.mem_cons_self
    have y1 := hy y List.mem_cons_self
    have m : x = y := by
      have := congrArg (· % B) e'
      simp only [Nat.add_mul_mod_self_left] at this
      rwa [Nat.mod_eq_of_lt x1, Nat.mod_eq_of_lt y1] at this
    subst m
    have e2 : enc B xs = enc B ys := Nat.eq_of_mul_eq_mul_left (show 0 < B by omega) (by omega)
    rw [enc_inj xs ys (by simpa using h) (fun z hz => hx z (List.mem_cons_of_mem _ hz)) (fun z hz => hy z (List.mem_cons_of_mem _ hz)) e2]
/-- sum of products -/
def dotI : List Int → List Int → Int
  | a :: as, b :: bs => a * b + dotI as bs
  | _, _ => 0
theorem dotI_nil (as : List Int) : dotI as [] = 0 := by cases as <;> rfl
def subI : List Int → List Int → List Int
  | a :: as, b :: bs => (a - b) :: subI as bs
  | _, _ => []
theorem dot_sub : ∀ (c x y : List Int), x.length = y.length → dotI c (subI x y) = dotI c x - dotI c y
  | [], x, y, _ => rfl
  | c :: cs, [], [], _ => rfl
  | c :: cs, [], _ :: _, h => by cases h
  | c :: cs, _ :: _, [], h => by cases h
  | c :: cs, x :: xs, y :: ys, h => by
    show c * (x - y) + dotI cs (subI xs ys) = (c * x + dotI cs xs) - (c * y + dotI cs ys)
    rw [dot_sub cs xs ys (by simpa using h), Int.mul_sub]
    omega
/-- the sum of the negative parts, times H, bounds from below -/
def negs (c : List Int) : Nat := (c.map fun a => if a < 0 then a.natAbs else 0).sum
def poss (c : List Int) : Nat := (c.map fun a => if a < 0 then 0 else a.natAbs).sum
theorem dot_bnd {H : Nat} : ∀ (c : List Int) (x : List Nat), (∀ a ∈ x, a ≤ H) → -(negs c * H : Nat) ≤ dotI c (x.map Int.ofNat) ∧ dotI c (x.map Int.ofNat) ≤ (poss c * H : Nat)
  | [], x, _ => ⟨by show -((negs [] * H : Nat) : Int) ≤ 0; omega, by show (0 : Int) ≤ _; omega⟩
  | c :: cs, [], _ => ⟨by rw [List.map_nil, dotI_nil]; omega, by rw [List.map_nil, dotI_nil]; omega⟩
  | c :: cs, x :: xs, h => by
    obtain ⟨h1, h2⟩ := dot_bnd cs xs fun a ha => h a (List.mem_cons_of_mem _ ha)
    have hx := h x List.mem_cons_self
    have en : negs (c :: cs) = (if c < 0 then c.natAbs else 0) + negs cs := rfl
    have ep : poss (c :: cs) = (if c < 0 then 0 else c.natAbs) + poss cs := rfl
    show -((negs (c :: cs) * H : Nat) : Int) ≤ c * (x : Int) + dotI cs (xs.map Int.ofNat) ∧ c * (x : Int) + dotI cs (xs.map Int.ofNat) ≤ ((poss (c :: cs) * H : Nat) : Int)
    rw [en, ep, Nat.add_mul, Nat.add_mul]
    by_cases hc : c < 0
    · rw [if_pos hc, if_pos hc]
      have e : c = -(c.natAbs : Int) := by omega
      have m : (c.natAbs * x : Nat) ≤ c.natAbs * H := Nat.mul_le_mul_left _ hx
      have e2 : c * (x : Int) = -((c.natAbs * x : Nat) : Int) := by
        conv => lhs; rw [e]
        rw [Int.neg_mul]; simp
      rw [e2]
      omega
    · rw [if_neg hc, if_neg hc]
      have e : c = (c.natAbs : Int) := by omega
      have m : (c.natAbs * x : Nat) ≤ c.natAbs * H := Nat.mul_le_mul_left _ hx
      have e2 : c * (x : Int) = ((c.natAbs * x : Nat) : Int) := by
        conv => lhs; rw [e]
        simp
      rw [e2]
      omega
theorem negs_poss {M : Nat} : ∀ c : List Int, (∀ a ∈ c, a.natAbs ≤ M) → negs c + poss c ≤ c.length * M
  | [], _ => by show 0 + 0 ≤ _; omega
  | c :: cs, h => by
    have ih := negs_poss cs fun a ha => h a (List.mem_cons_of_mem _ ha)
    have h1 := h c List.mem_cons_self
    have en : negs (c :: cs) = (if c < 0 then c.natAbs else 0) + negs cs := rfl
    have ep : poss (c :: cs) = (if c < 0 then 0 else c.natAbs) + poss cs := rfl
    rw [en, ep, List.length_cons, Nat.add_mul, Nat.one_mul]
    split <;> omega
/-- k equations in more than k unknowns have a small solution -/
theorem siegel {M n : Nat} (hM : 0 < M) (E : List (List Int)) (hE : E.length < n) (hb : ∀ c ∈ E, c.length = n ∧ ∀ a ∈ c, a.natAbs ≤ M) :
    ∃ l : List Int, l.length = n ∧ (∃ a ∈ l, a ≠ 0) ∧ (∀ a ∈ l, a.natAbs ≤ (n * M) ^ E.length) ∧ ∀ c ∈ E, dotI c l = 0 := by
  have hA : 0 < n * M := Nat.mul_pos (by omega) hM
  generalize hAe : n * M = A at *
  generalize hH : A ^ E.length = H
  have hH0 : 0 < H := by rw [← hH]; exact Nat.pow_pos hA
  let vec := fun i => dig (H + 1) n i
  let img := fun i => E.map fun c => (dotI c ((vec i).map Int.ofNat) + (negs c * H : Nat)).toNat
  have hv : ∀ i, ∀ x ∈ vec i, x ≤ H := fun i x hx => by
    have := dig_lt (B := H + 1) (by omega) n i x hx
    omega
  have himg : ∀ i, ∀ x ∈ img i, x < A * H + 1 := by
    intro i x hx
    obtain ⟨c, hc, rfl⟩ := List.mem_map.mp hx
    obtain ⟨b1, b2⟩ := dot_bnd (H := H) c (vec i) (hv i)
    have b3 := negs_poss (M := M) c (hb c hc).2
    rw [(hb c hc).1, hAe] at b3
    have b4 : (negs c + poss c) * H ≤ A * H := Nat.mul_le_mul_right _ b3
    rw [Nat.add_mul] at b4
    omega
  have hlen : ∀ i, (img i).length = E.length := fun i => by simp [img]
  have hcnt : (A * H + 1) ^ E.length < (H + 1) ^ n := by
    have h1 : A * H + 1 ≤ A * (H + 1) := by rw [Nat.mul_add]; omega
    have h2 : (A * H + 1) ^ E.length ≤ (A * (H + 1)) ^ E.length := Nat.pow_le_pow_left h1 _
    rw [Nat.mul_pow, hH] at h2
    have h3 : (H + 1) ^ (E.length + 1) ≤ (H + 1) ^ n := Nat.pow_le_pow_right (by omega) hE
    rw [Nat.pow_succ, Nat.mul_comm, Nat.add_mul, Nat.one_mul] at h3
    have h4 : 0 < (H + 1) ^ E.length := Nat.pow_pos (by omega)
    omega
  obtain ⟨i, j, hij, hj, he⟩ := pigeon (P := (H + 1) ^ n) (Q := (A * H + 1) ^ E.length) (f := fun i => enc (A * H + 1) (img i)) (fun i _ => by
    have := enc_lt (img i) (himg i)
    rwa [hlen] at this) hcnt
  have he2 : img i = img j := enc_inj _ _ (by rw [hlen, hlen]) (himg i) (himg j) he
  have hne : vec i ≠ vec j := fun z => by
    have := dig_inj (B := H + 1) (by omega) n i j (by omega) hj z
    omega
  have li : (vec i).length = n := dig_len _ _ _
  have lj : (vec j).length = n := dig_len _ _ _
  have hsub : ∀ (x y : List Nat), x.length = y.length → (subI (x.map Int.ofNat) (y.map Int.ofNat)).length = x.length ∧ (x ≠ y → ∃ a ∈ subI (x.map Int.ofNat) (y.map Int.ofNat), a ≠ 0) ∧ ((∀ a ∈ x, a ≤ H) → (∀ a ∈ y, a ≤ H) → ∀ a ∈ subI (x.map Int.ofNat) (y.map Int.ofNat), a.natAbs ≤ H) := by
    intro x
    induction x with
    | nil =>
      intro y hy
      have : y = [] := by simpa using hy.symm
      subst this
      exact ⟨rfl, fun z => absurd rfl z, fun _ _ a ha => by cases ha⟩
    | cons a x ih =>
      intro y hy
      cases y with
      | nil => cases hy
      | cons b y =>
        obtain ⟨h1, h2, h3⟩ := ih y (by simpa using hy)
        have e : subI ((a :: x).map Int.ofNat) ((b :: y).map Int.ofNat) = ((a : Int) - (b : Int)) :: subI (x.map Int.ofNat) (y.map Int.ofNat) := rfl
        rw [e]
        refine ⟨by simp [h1], fun z => ?_, fun ha hb c hc => ?_⟩
        · by_cases hab : a = b
          · subst hab
            obtain ⟨c, hc, hc0⟩ := h2 fun w => z (by rw [w])
            exact ⟨c, List.mem_cons_of_mem _ hc, hc0⟩
          · exact ⟨_, List.mem_cons_self, by omega⟩
        · rcases List.mem_cons.mp hc with rfl | hc
          · have := ha a List.mem_cons_self
            have := hb b List.mem_cons_self
            omega
          · exact h3 (fun d hd => ha d (List.mem_cons_of_mem _ hd)) (fun d hd => hb d (List.mem_cons_of_mem _ hd)) c hc
  obtain ⟨s1, s2, s3⟩ := hsub (vec i) (vec j) (by rw [li, lj])
  refine ⟨subI ((vec i).map Int.ofNat) ((vec j).map Int.ofNat), by rw [s1, li], s2 hne, fun a ha => s3 (hv i) (hv j) a ha, fun c hc => ?_⟩
  rw [dot_sub _ _ _ (by simp [li, lj])]
  have e3 : (dotI c ((vec i).map Int.ofNat) + (negs c * H : Nat)).toNat = (dotI c ((vec j).map Int.ofNat) + (negs c * H : Nat)).toNat := by
    have := List.map_inj_left.mp (show E.map (fun c => (dotI c ((vec i).map Int.ofNat) + (negs c * H : Nat)).toNat) = E.map (fun c => (dotI c ((vec j).map Int.ofNat) + (negs c * H : Nat)).toNat) from he2) c hc
    exact this
  have b1 := (dot_bnd (H := H) c (vec i) (hv i)).1
  have b2 := (dot_bnd (H := H) c (vec j) (hv j)).1
  omega
end CC
set_option linter.all false
set_option maxRecDepth 100000
set_option maxHeartbeats 1000000
/-! C3: tables as systems of equations; a turn keeps their solutions. -/
namespace W86
/-- sum over places -/
def sm : Nat → (Nat → Rat) → Rat
  | 0, _ => 0
  | n + 1, g => sm n g + g n
theorem sm_congr {g h : Nat → Rat} : ∀ n, (∀ j, j < n → g j = h j) → sm n g = sm n h
  | 0, _ => rfl
  | n + 1, e => by
    show sm n g + g n = sm n h + h n
    rw [sm_congr n fun j hj => e j (by omega), e n (by omega)]
theorem sm_mul (k : Rat) (g : Nat → Rat) : ∀ n, sm n (fun j => k * g j) = k * sm n g
  | 0 => by show (0 : Rat) = k * 0; grind
  | n + 1 => by
    show sm n (fun j => k * g j) + k * g n = k * (sm n g + g n)
    rw [sm_mul k g n]; grind
theorem sm_add (g h : Nat → Rat) : ∀ n, sm n (fun j => g j + h j) = sm n g + sm n h
  | 0 => by show (0 : Rat) = 0 + 0; grind
  | n + 1 => by
    show sm n (fun j => g j + h j) + (g n + h n) = (sm n g + g n) + (sm n h + h n)
    rw [sm_add g h n]; grind
theorem sm_zero {g : Nat → Rat} : ∀ n, (∀ j, j < n → g j = 0) → sm n g = 0
  | 0, _ => rfl
  | n + 1, e => by
    show sm n g + g n = 0
    rw [sm_zero n fun j hj => e j (by omega), e n (by omega)]; grind
theorem sm_split (g : Nat → Rat) (c : Nat) : ∀ n, c < n → sm n g = g c + sm n (fun j => if j = c then 0 else g j)
  | 0, h => absurd h (by omega)
  | n + 1, h => by
    show sm n g + g n = g c + (sm n (fun j => if j = c then 0 else g j) + if n = c then 0 else g n)
    by_cases e : n = c
    · rw [if_pos e, sm_congr (g := fun j => if j = c then 0 else g j) (h := g) n fun j hj => by rw [if_neg (by omega)]]
      subst e; grind
    · rw [if_neg e, sm_split g c n (by omega)]; grind
/-- a row's number -/
def rg (r : List Int) (j : Nat) : Rat := ((r.getD j 0 : Int) : Rat)
/-- a row's equation, its name having the value y, the columns the values c -/
def rowE (m : Nat) (r : List Int) (y : Rat) (c : Nat → Rat) : Prop := rg r 0 * y = sm m (fun j => rg r (j + 1) * c j)
theorem gcdL_pos {r : List Int} {a : Int} (ha : a ∈ r) (h0 : a ≠ 0) : 0 < gcdL r := by
  rcases Nat.eq_zero_or_pos (gcdL r) with z | z
  · have := gcdL_dvd r a ha
    rw [z] at this
    exact absurd (Int.zero_dvd.mp this) h0
  · exact z
/-- the common part times the lowest form -/
theorem mlow_rg (r : List Int) (j : Nat) : ((gcdL r : Nat) : Rat) * rg (mlow r) j = rg r j := by
  unfold rg
  by_cases h : j < r.length
  · rw [mlow_getD j h]
    have hm : r.getD j 0 ∈ r := by
      have : r.getD j 0 = r[j] := by simp [h]
      rw [this]; exact List.getElem_mem h
    have hd := Int.mul_ediv_cancel' (gcdL_dvd r _ hm)
    have : ((((gcdL r : Nat) : Int) * (r.getD j 0 / ((gcdL r : Nat) : Int)) : Int) : Rat) = ((r.getD j 0 : Int) : Rat) := by rw [hd]
    rw [Rat.intCast_mul] at this
    exact this
  · have h1 : r.getD j 0 = 0 := by simp [List.getD_eq_getElem?_getD, List.getElem?_eq_none (Nat.le_of_not_lt h)]
    have h2 : (mlow r).getD j 0 = 0 := by
      have : (mlow r).length ≤ j := by rw [mlow_len]; omega
      simp [List.getD_eq_getElem?_getD, List.getElem?_eq_none this]
    rw [h1, h2]; grind
theorem mlow_row {r : List Int} (hg : 0 < gcdL r) (m : Nat) (y : Rat) (c : Nat → Rat) : rowE m (mlow r) y c ↔ rowE m r y c := by
  have hg' : (0 : Rat) < ((gcdL r : Nat) : Rat) := by exact_mod_cast hg
  have e1 : sm m (fun j => rg r (j + 1) * c j) = ((gcdL r : Nat) : Rat) * sm m (fun j => rg (mlow r) (j + 1) * c j) := by
    rw [← sm_mul]
    refine sm_congr m fun j _ => ?_
    rw [← mlow_rg r (j + 1)]; grind
  unfold rowE
  rw [e1, ← mlow_rg r 0]
  generalize sm m (fun j => rg (mlow r) (j + 1) * c j) = s
  generalize rg (mlow r) 0 = f
  constructor
  · intro h; grind
  · intro h
    have : ((gcdL r : Nat) : Rat) * (f * y - s) = 0 := by grind
    rcases Rat.mul_eq_zero.mp this with z | z
    · grind
    · grind
end W86
set_option linter.all false
set_option maxRecDepth 100000
set_option maxHeartbeats 1000000
/-! C4: a turn keeps the solutions. -/
namespace W86
theorem getD_set (r : List Int) (k j : Nat) (v : Int) (hk : k < r.length) : (r.set k v).getD j 0 = if j = k then v else r.getD j 0 := by
  rw [List.getD_eq_getElem?_getD, List.getElem?_set]
  by_cases e : k = j
  · subst e
    simp [hk]
  · rw [if_neg e, if_neg (fun z => e z.symm), List.getD_eq_getElem?_getD]
theorem getD_map (r : List Int) (f : Int → Int) (h0 : f 0 = 0) (j : Nat) : (r.map f).getD j 0 = f (r.getD j 0) := by
  rw [List.getD_eq_getElem?_getD, List.getElem?_map, List.getD_eq_getElem?_getD]
  cases r[j]? with
  | none => simp [h0]
  | some v => rfl
theorem getD_range (n : Nat) (f : Nat → Int) (j : Nat) : ((List.range n).map f).getD j 0 = if j < n then f j else 0 := by
  rw [List.getD_eq_getElem?_getD, List.getElem?_map]
  by_cases h : j < n
  · simp [h]
  · simp [h]
theorem sgnR_sq (r : List Int) (col : Nat) : (sgnR r col : Rat) * (sgnR r col : Rat) = 1 := by
  rw [← Rat.intCast_mul]
  rcases sgnR_or r col with h | h <;> rw [h] <;> rfl
theorem rg_pre {r : List Int} {col : Nat} (h : col + 2 < r.length) (j : Nat) : rg (preF r col) j = if j = col + 2 then (sgnR r col : Rat) * rg r 0 else if j = 0 then (sgnR r col : Rat) * rg r (col + 2) else -((sgnR r col : Rat) * rg r j) := by
  unfold rg preF
  rw [getD_set _ _ _ _ (by simp; omega), getD_set _ _ _ _ (by simp; omega), getD_map r (fun e => -(sgnR r col) * e) (by simp) j]
  split
  · rw [Rat.intCast_mul]
  · split
    · rw [Rat.intCast_mul]
    · rw [Rat.intCast_mul, Rat.intCast_neg]; grind
def mixL (f r : List Int) (col : Nat) : List Int := (((List.range r.length).map fun j => f.getD 0 0 * r.getD j 0 + r.getD (col + 2) 0 * f.getD j 0).set 0 (f.getD 0 0 * r.getD 0 0)).set (col + 2) (r.getD (col + 2) 0 * f.getD (col + 2) 0)
theorem mixR_eq (f r : List Int) (col : Nat) : mixR f r col = mlow (mixL f r col) := rfl
theorem rg_mix {f r : List Int} {col : Nat} (h : col + 2 < r.length) (hf : f.length = r.length) (j : Nat) : rg (mixL f r col) j = if j = col + 2 then rg r (col + 2) * rg f (col + 2) else if j = 0 then rg f 0 * rg r 0 else rg f 0 * rg r j + rg r (col + 2) * rg f j := by
  unfold rg mixL
  rw [getD_set _ _ _ _ (by simp; omega), getD_set _ _ _ _ (by simp; omega), getD_range]
  split
  · rw [Rat.intCast_mul]
  · split
    · rw [Rat.intCast_mul]
    · split
      · rw [Rat.intCast_add, Rat.intCast_mul, Rat.intCast_mul]
      · have h1 : r.getD j 0 = 0 := by simp [List.getD_eq_getElem?_getD, List.getElem?_eq_none (show r.length ≤ j by omega)]
        have h2 : f.getD j 0 = 0 := by simp [List.getD_eq_getElem?_getD, List.getElem?_eq_none (show f.length ≤ j by omega)]
        rw [h1, h2]
        show (0 : Rat) = _
        have e0 : ((0 : Int) : Rat) = 0 := rfl
        rw [e0]; grind
def upd (c : Nat → Rat) (k : Nat) (y : Rat) : Nat → Rat := fun j => if j = k then y else c j
section
variable {r f : List Int} {col m : Nat} {c : Nat → Rat} {y x : Rat}
/-- sum with the k-th apart -/
theorem sm_at (r : List Int) (k m : Nat) (hk : k < m) (c : Nat → Rat) : sm m (fun j => rg r (j + 1) * c j) = rg r (k + 1) * c k + sm m (fun j => if j = k then 0 else rg r (j + 1) * c j) := sm_split _ k m hk
theorem sm_upd (r : List Int) (k m : Nat) (hk : k < m) (c : Nat → Rat) (y : Rat) : sm m (fun j => rg r (j + 1) * upd c k y j) = rg r (k + 1) * y + sm m (fun j => if j = k then 0 else rg r (j + 1) * c j) := by
  rw [sm_split (fun j => rg r (j + 1) * upd c k y j) k m hk]
  congr 1
  · show rg r (k + 1) * (if k = k then y else c k) = _
    rw [if_pos rfl]
  · refine sm_congr m fun j _ => ?_
    split
    · rfl
    · unfold upd
      rw [if_neg (by assumption)]
theorem pivot_iff (h : col + 2 < r.length) (hm : col + 1 < m) : rowE m r y c ↔ rowE m (preF r col) (c (col + 1)) (upd c (col + 1) y) := by
  unfold rowE
  rw [sm_at r (col + 1) m hm, sm_upd _ (col + 1) m hm, rg_pre h 0, rg_pre h (col + 1 + 1), if_neg (by omega), if_pos rfl, if_pos rfl]
  have e : sm m (fun j => if j = col + 1 then 0 else rg (preF r col) (j + 1) * c j) = -(sgnR r col : Rat) * sm m (fun j => if j = col + 1 then 0 else rg r (j + 1) * c j) := by
    rw [← sm_mul]
    refine sm_congr m fun j _ => ?_
    by_cases hj : j = col + 1
    · rw [if_pos hj, if_pos hj]; grind
    · rw [if_neg hj, if_neg hj, rg_pre h, if_neg (by omega), if_neg (by omega)]; grind
  rw [e]
  generalize sm m (fun j => if j = col + 1 then 0 else rg r (j + 1) * c j) = s
  have hs := sgnR_sq r col
  generalize (sgnR r col : Rat) = g at *
  generalize rg r 0 = a
  clear e
  show a * y = rg r (col + 2) * c (col + 1) + s ↔ g * rg r (col + 2) * c (col + 1) = g * a * y + -g * s
  generalize rg r (col + 2) = p
  generalize c (col + 1) = q
  constructor
  · intro h
    have h2 : g * (a * y) = g * (p * q + s) := by rw [h]
    grind
  · intro h
    have h2 : g * (g * p * q) = g * (g * a * y + -g * s) := by rw [h]
    have h3 : g * g * (p * q) = g * g * (a * y - s) := by grind
    rw [hs] at h3
    grind
theorem mix_iff (h : col + 2 < r.length) (hf : f.length = r.length) (hm : col + 1 < m) (h0 : rg f 0 ≠ 0) (hF : rowE m f (c (col + 1)) (upd c (col + 1) y)) : rowE m r x c ↔ rowE m (mixL f r col) x (upd c (col + 1) y) := by
  unfold rowE at *
  rw [sm_upd _ (col + 1) m hm] at hF ⊢
  rw [sm_at r (col + 1) m hm, rg_mix h hf 0, rg_mix h hf (col + 1 + 1), if_neg (by omega), if_pos rfl, if_pos rfl]
  have e : sm m (fun j => if j = col + 1 then 0 else rg (mixL f r col) (j + 1) * c j) = rg f 0 * sm m (fun j => if j = col + 1 then 0 else rg r (j + 1) * c j) + rg r (col + 2) * sm m (fun j => if j = col + 1 then 0 else rg f (j + 1) * c j) := by
    rw [← sm_mul, ← sm_mul, ← sm_add]
    refine sm_congr m fun j _ => ?_
    by_cases hj : j = col + 1
    · rw [if_pos hj, if_pos hj, if_pos hj]; grind
    · rw [if_neg hj, if_neg hj, if_neg hj, rg_mix h hf, if_neg (by omega), if_neg (by omega)]; grind
  rw [e]
  generalize sm m (fun j => if j = col + 1 then 0 else rg r (j + 1) * c j) = s at *
  generalize sm m (fun j => if j = col + 1 then 0 else rg f (j + 1) * c j) = t at *
  have e2 : col + 1 + 1 = col + 2 := rfl
  rw [e2] at *
  generalize rg f 0 = a at *
  generalize rg f (col + 2) = b at *
  generalize rg r (col + 2) = l at *
  generalize rg r 0 = d at *
  generalize c (col + 1) = q at *
  constructor
  · intro h; grind
  · intro h
    have : a * (d * x - (l * q + s)) = 0 := by grind
    rcases Rat.mul_eq_zero.mp this with z | z
    · exact absurd z h0
    · grind
theorem same_iff (hm : col + 1 < m) (hl : rg r (col + 2) = 0) : rowE m r x c ↔ rowE m r x (upd c (col + 1) y) := by
  unfold rowE
  have e2 : col + 1 + 1 = col + 2 := rfl
  rw [sm_at r (col + 1) m hm, sm_upd r (col + 1) m hm, e2, hl]
  generalize sm m (fun j => if j = col + 1 then 0 else rg r (j + 1) * c j) = s
  constructor <;> intro h <;> grind
end
end W86
set_option linter.all false
set_option maxRecDepth 100000
set_option maxHeartbeats 1000000
/-! C5: tables, kept by a turn. -/
namespace W86
theorem swap_perm (L : List Int) (i j : Nat) (hi : i < L.length) (hj : j < L.length) : ((L.set i L[j]).set j L[i]).Perm L := by
  have h := Array.swap_perm (xs := L.toArray) (i := i) (j := j) (by simpa using hi) (by simpa using hj)
  have := Array.perm_iff_toList_perm.mp h
  rw [Array.toList_swap] at this
  simpa using this
theorem swap_two (I O : List Int) (a c : Nat) (ha : a < I.length) (hc : c < O.length) : (I.set a (O.getD c 0) ++ O.set c (I.getD a 0)).Perm (I ++ O) := by
  have h := swap_perm (I ++ O) a (I.length + c) (by simp; omega) (by simp; omega)
  have e1 : (I ++ O)[a]'(by simp; omega) = I.getD a 0 := by simp [List.getElem_append, ha]
  have e2 : (I ++ O)[I.length + c]'(by simp; omega) = O.getD c 0 := by
    simp [hc]
  rw [e1, e2] at h
  rw [List.set_append_left _ _ ha, List.set_append_right _ _ (by simp)] at h
  have e3 : I.length + c - (I.set a (O.getD c 0)).length = c := by simp
  rw [e3] at h
  exact h
structure TI (N : Nat) (R : List (List Int)) (I O : List Int) : Prop where
  hR : R.length = I.length + 1
  row : ∀ r ∈ R, r.length = O.length + 2
  pos : ∀ r ∈ R, 0 < r.getD 0 0
  prim : ∀ r ∈ R, gcdL r = 1
  nd : (I ++ O).Nodup
  mem : ∀ v, v ∈ I ++ O ↔ 0 ≤ v ∧ v < N
/-- the table's rows hold -/
def Sat (R : List (List Int)) (I O : List Int) (x : Int → Rat) : Prop := ∀ k, k < R.length → rowE (O.length + 1) (R.getD k []) (x ((I ++ [-1]).getD k 0)) (fun j => x ((-2 :: O).getD j 0))
theorem gcd_mlow {r : List Int} (h : 0 < gcdL r) : gcdL (mlow r) = 1 := by
  have key : ∀ l : List Int, (∀ a ∈ l, ((gcdL r : Nat) : Int) ∣ a) → gcdL r * gcdL (l.map fun a => a / (gcdL r : Int)) = gcdL l := by
    intro l
    induction l with
    | nil => intro _; rfl
    | cons a l ih =>
      intro hl
      have e1 : gcdL ((a :: l).map fun a => a / (gcdL r : Int)) = Nat.gcd (a / (gcdL r : Int)).natAbs (gcdL (l.map fun a => a / (gcdL r : Int))) := rfl
      have e2 : gcdL (a :: l) = Nat.gcd a.natAbs (gcdL l) := rfl
      rw [e1, e2, ← Nat.gcd_mul_left, ih fun b hb => hl b (List.mem_cons_of_mem _ hb)]
      congr 1
      have hd := hl a List.mem_cons_self
      rw [Int.natAbs_ediv_of_dvd hd, Int.natAbs_natCast, Nat.mul_div_cancel' (Int.ofNat_dvd_left.mp hd)]
  have := key r (gcdL_dvd r)
  unfold mlow
  exact Nat.eq_of_mul_eq_mul_left h (by omega)
section
variable {N : Nat} {R : List (List Int)} {I O : List Int} {at' col : Nat}
theorem TI.getR (t : TI N R I O) {k : Nat} (hk : k < R.length) : R.getD k [] ∈ R := by
  have : R.getD k [] = R[k] := by simp [hk]
  rw [this]; exact List.getElem_mem hk
theorem TI.rl (t : TI N R I O) {k : Nat} (hk : k < R.length) : (R.getD k []).length = O.length + 2 := t.row _ (t.getR hk)
theorem turnR_len : (turnR R at' col).length = R.length := by simp [turnR]
theorem turnR_at {k : Nat} (hk : k < R.length) : (turnR R at' col).getD k [] = newR (freshR (R.getD at' []) col) at' col k (R.getD k []) := by
  unfold turnR
  rw [List.getD_eq_getElem?_getD, List.getElem?_map]
  simp [hk]
/-- a pivot's number is not 0 -/
def Piv (R : List (List Int)) (at' col : Nat) : Prop := (R.getD at' []).getD (col + 2) 0 ≠ 0
theorem sgn_pos {r : List Int} (h : r.getD (col + 2) 0 ≠ 0) : 0 < sgnR r col * r.getD (col + 2) 0 := by
  unfold sgnR
  split <;> omega
theorem getD_mem {r : List Int} {j : Nat} (h : r.getD j 0 ≠ 0) : r.getD j 0 ∈ r := by
  by_cases hj : j < r.length
  · have : r.getD j 0 = r[j] := by simp [hj]
    rw [this]; exact List.getElem_mem hj
  · exact absurd (by simp [List.getD_eq_getElem?_getD, List.getElem?_eq_none (Nat.le_of_not_lt hj)]) h
theorem pre_0 {r : List Int} (hl : 0 < r.length) : (preF r col).getD 0 0 = sgnR r col * r.getD (col + 2) 0 := by
  have h1 : (preF r col).getD 0 0 = ((r.map fun e => -(sgnR r col) * e).set 0 (sgnR r col * r.getD (col + 2) 0)).getD 0 0 := by
    unfold preF
    by_cases h : col + 2 < ((r.map fun e => -(sgnR r col) * e).set 0 (sgnR r col * r.getD (col + 2) 0)).length
    · rw [getD_set _ _ _ _ h, if_neg (by omega)]
    · rw [List.set_eq_of_length_le (by omega)]
  rw [h1, getD_set _ _ _ _ (by simpa using hl), if_pos rfl]
theorem low_pos {r : List Int} (h : 0 < r.getD 0 0) (hl : 0 < r.length) : 0 < (mlow r).getD 0 0 := by
  have hm := getD_mem (r := r) (j := 0) (by omega)
  rw [mlow_getD 0 hl]
  have hd := gcdL_dvd r _ hm
  have hp := gcdL_pos hm (by omega)
  exact Int.ediv_pos_of_pos_of_dvd h (by omega) hd
theorem fresh_pos {r : List Int} (hl : 0 < r.length) (hp : r.getD (col + 2) 0 ≠ 0) : 0 < (preF r col).getD 0 0 ∧ 0 < gcdL (preF r col) ∧ 0 < (freshR r col).getD 0 0 := by
  have h1 : 0 < (preF r col).getD 0 0 := by rw [pre_0 hl]; exact sgn_pos hp
  refine ⟨h1, gcdL_pos (getD_mem (r := preF r col) (j := 0) (by omega)) (by omega), ?_⟩
  rw [freshR_eq]
  exact low_pos h1 (by rw [preF_len]; exact hl)
theorem mix_0 {f r : List Int} (hl : 0 < r.length) : (mixL f r col).getD 0 0 = f.getD 0 0 * r.getD 0 0 := by
  have h1 : (mixL f r col).getD 0 0 = (((List.range r.length).map fun j => f.getD 0 0 * r.getD j 0 + r.getD (col + 2) 0 * f.getD j 0).set 0 (f.getD 0 0 * r.getD 0 0)).getD 0 0 := by
    unfold mixL
    by_cases h : col + 2 < (((List.range r.length).map fun j => f.getD 0 0 * r.getD j 0 + r.getD (col + 2) 0 * f.getD j 0).set 0 (f.getD 0 0 * r.getD 0 0)).length
    · rw [getD_set _ _ _ _ h, if_neg (by omega)]
    · rw [List.set_eq_of_length_le (by omega)]
  rw [h1, getD_set _ _ _ _ (by simpa using hl), if_pos rfl]
theorem mixL_len (f r : List Int) : (mixL f r col).length = r.length := by simp [mixL]
theorem mix_pos {f r : List Int} (hl : 0 < r.length) (hf : 0 < f.getD 0 0) (hr : 0 < r.getD 0 0) : 0 < gcdL (mixL f r col) ∧ 0 < (mixR f r col).getD 0 0 := by
  have h1 : 0 < (mixL f r col).getD 0 0 := by rw [mix_0 hl]; exact Int.mul_pos hf hr
  refine ⟨gcdL_pos (getD_mem (r := mixL f r col) (j := 0) (by omega)) (by omega), ?_⟩
  rw [mixR_eq]
  exact low_pos h1 (by rw [mixL_len]; exact hl)
theorem fresh_len (r : List Int) : (freshR r col).length = r.length := by rw [freshR_eq, mlow_len, preF_len]
theorem mix_len (f r : List Int) : (mixR f r col).length = r.length := by rw [mixR_eq, mlow_len, mixL_len]
theorem turn_rows (t : TI N R I O) (ha : at' < R.length) (hc : col < O.length) (hp : Piv R at' col) : ∀ k, k < R.length → ((turnR R at' col).getD k []).length = O.length + 2 ∧ 0 < ((turnR R at' col).getD k []).getD 0 0 ∧ gcdL ((turnR R at' col).getD k []) = 1 := by
  intro k hk
  have hal := t.rl ha
  have hkl := t.rl hk
  obtain ⟨f1, f2, f3⟩ := fresh_pos (r := R.getD at' []) (col := col) (by omega) hp
  rw [turnR_at hk]
  unfold newR
  split
  · exact ⟨by rw [fresh_len, hal], f3, by rw [freshR_eq]; exact gcd_mlow f2⟩
  · split
    · exact ⟨hkl, t.pos _ (t.getR hk), t.prim _ (t.getR hk)⟩
    · obtain ⟨m1, m2⟩ := mix_pos (col := col) (r := R.getD k []) (by omega) f3 (t.pos _ (t.getR hk))
      exact ⟨by rw [mix_len, hkl], m2, by rw [mixR_eq]; exact gcd_mlow m1⟩
theorem TI.turn (t : TI N R I O) (ha : at' < I.length) (hc : col < O.length) (hp : Piv R at' col) : TI N (turnR R at' col) (I.set at' (O.getD col 0)) (O.set col (I.getD at' 0)) := by
  have hR := t.hR
  have hrows := turn_rows t (at' := at') (col := col) (by omega) hc hp
  have hm : ∀ r ∈ turnR R at' col, ∃ k, k < R.length ∧ r = (turnR R at' col).getD k [] := by
    intro r hr
    obtain ⟨k, hk, rfl⟩ := List.mem_iff_getElem.mp hr
    refine ⟨k, by rw [turnR_len] at hk; exact hk, by simp [hk]⟩
  have hperm := swap_two I O at' col ha hc
  refine ⟨by rw [turnR_len, List.length_set]; exact hR, fun r hr => ?_, fun r hr => ?_, fun r hr => ?_, (hperm.nodup_iff).mpr t.nd, fun v => ?_⟩
  · obtain ⟨k, hk, rfl⟩ := hm r hr
    rw [List.length_set]; exact (hrows k hk).1
  · obtain ⟨k, hk, rfl⟩ := hm r hr
    exact (hrows k hk).2.1
  · obtain ⟨k, hk, rfl⟩ := hm r hr
    exact (hrows k hk).2.2
  · rw [hperm.mem_iff]; exact t.mem v
theorem cols_upd (x : Int → Rat) (v : Int) : (fun j => x ((-2 :: O.set col v).getD j 0)) = fun j => if col < O.length then upd (fun j => x ((-2 :: O).getD j 0)) (col + 1) (x v) j else x ((-2 :: O).getD j 0) := by
  funext j
  by_cases h : col < O.length
  · rw [if_pos h]
    unfold upd
    cases j with
    | zero => rw [if_neg (by omega)]; rfl
    | succ j =>
      show x ((O.set col v).getD j 0) = if j + 1 = col + 1 then x v else x (O.getD j 0)
      rw [getD_set _ _ _ _ h]
      by_cases e : j = col
      · subst e; simp
      · rw [if_neg e, if_neg (by omega)]
  · rw [if_neg h, List.set_eq_of_length_le (by omega)]
theorem Sat.turn (t : TI N R I O) (ha : at' < I.length) (hc : col < O.length) (hp : Piv R at' col) (x : Int → Rat) : Sat R I O x ↔ Sat (turnR R at' col) (I.set at' (O.getD col 0)) (O.set col (I.getD at' 0)) x := by
  have hR := t.hR
  have ha' : at' < R.length := by omega
  have hal := t.rl ha'
  obtain ⟨f1, f2, f3⟩ := fresh_pos (r := R.getD at' []) (col := col) (by omega) hp
  have ecol : (fun j => x ((-2 :: O.set col (I.getD at' 0)).getD j 0)) = upd (fun j => x ((-2 :: O).getD j 0)) (col + 1) (x (I.getD at' 0)) := by
    rw [cols_upd]
    funext j
    rw [if_pos hc]
  have enm : ∀ k, k < R.length → ((I.set at' (O.getD col 0)) ++ [-1]).getD k 0 = if k = at' then O.getD col 0 else (I ++ [-1]).getD k 0 := by
    intro k hk
    have e : (I.set at' (O.getD col 0)) ++ [-1] = (I ++ [-1]).set at' (O.getD col 0) := by rw [List.set_append_left _ _ ha]
    rw [e, getD_set _ _ _ _ (by simp; omega)]
  have eat : (I ++ [-1]).getD at' 0 = I.getD at' 0 := by
    simp [List.getD_eq_getElem?_getD, List.getElem?_append_left ha]
  -- the fresh row
  have hfresh : rowE (O.length + 1) (R.getD at' []) (x (I.getD at' 0)) (fun j => x ((-2 :: O).getD j 0)) ↔ rowE (O.length + 1) (freshR (R.getD at' []) col) (x (O.getD col 0)) (upd (fun j => x ((-2 :: O).getD j 0)) (col + 1) (x (I.getD at' 0))) := by
    rw [freshR_eq, mlow_row f2]
    exact pivot_iff (by omega) (by omega)
  have hF0 : rg (freshR (R.getD at' []) col) 0 ≠ 0 := by
    intro z
    have h0 : (((freshR (R.getD at' []) col).getD 0 0 : Int) : Rat) = ((0 : Int) : Rat) := z
    have := Rat.intCast_inj.mp h0
    omega
  have hother : ∀ k, k < R.length → k ≠ at' → rowE (O.length + 1) (freshR (R.getD at' []) col) (x (O.getD col 0)) (upd (fun j => x ((-2 :: O).getD j 0)) (col + 1) (x (I.getD at' 0))) → ∀ y, (rowE (O.length + 1) (R.getD k []) y (fun j => x ((-2 :: O).getD j 0)) ↔ rowE (O.length + 1) ((turnR R at' col).getD k []) y (upd (fun j => x ((-2 :: O).getD j 0)) (col + 1) (x (I.getD at' 0)))) := by
    intro k hk hne hf y
    rw [turnR_at hk]
    unfold newR
    rw [if_neg hne]
    have hkl := t.rl hk
    by_cases h0 : (R.getD k []).getD (col + 2) 0 = 0
    · rw [if_pos h0]
      refine same_iff (by omega) ?_
      unfold rg
      rw [h0]; rfl
    · rw [if_neg h0, mixR_eq, mlow_row (mix_pos (by omega) f3 (t.pos _ (t.getR hk))).1]
      exact mix_iff (by omega) (by rw [fresh_len, hal, hkl]) (by omega) hF0 hf
  unfold Sat
  rw [turnR_len, List.length_set]
  constructor
  · intro h
    have hf := h at' ha'
    rw [eat] at hf
    have hf2 := hfresh.mp hf
    intro k hk
    rw [enm k hk, ecol]
    by_cases e : k = at'
    · subst e
      rw [if_pos rfl, turnR_at hk]
      unfold newR
      rw [if_pos rfl]
      exact hf2
    · rw [if_neg e]
      exact (hother k hk e hf2 _).mp (h k hk)
  · intro h
    have hf := h at' ha'
    rw [enm at' ha', ecol, if_pos rfl, turnR_at ha'] at hf
    unfold newR at hf
    rw [if_pos rfl] at hf
    intro k hk
    by_cases e : k = at'
    · subst e
      rw [eat]
      exact hfresh.mpr hf
    · have := h k hk
      rw [enm k hk, ecol, if_neg e] at this
      exact (hother k hk e hf _).mpr this
end
end W86
set_option linter.all false
set_option maxRecDepth 100000
set_option maxHeartbeats 1000000
/-! C6: a table as a state of the plain method. -/
namespace W86
theorem sm_front (g : Nat → Rat) : ∀ n, sm (n + 1) g = g 0 + sm n (fun j => g (j + 1))
  | 0 => by show (0 : Rat) + g 0 = g 0 + 0; grind
  | n + 1 => by
    show sm (n + 1) g + g (n + 1) = g 0 + (sm n (fun j => g (j + 1)) + g (n + 1))
    rw [sm_front g n]; grind
theorem sumL_congr {g h : Int → Rat} : ∀ W : List Int, (∀ w ∈ W, g w = h w) → CC.sumL W g = CC.sumL W h
  | [], _ => rfl
  | a :: W, e => by
    show g a + CC.sumL W g = h a + CC.sumL W h
    rw [e a List.mem_cons_self, sumL_congr W fun w hw => e w (List.mem_cons_of_mem _ hw)]
theorem sumL_sm (x : Int → Rat) : ∀ (W : List Int) (h : Nat → Rat), W.Nodup → CC.sumL W (fun w => h (W.idxOf w) * x w) = sm W.length (fun j => h j * x (W.getD j 0))
  | [], h, _ => rfl
  | a :: W, h, nd => by
    have nd' := List.nodup_cons.mp nd
    have ih := sumL_sm x W (fun j => h (j + 1)) nd'.2
    rw [List.length_cons, sm_front]
    show h ((a :: W).idxOf a) * x a + CC.sumL W (fun w => h ((a :: W).idxOf w) * x w) = h 0 * x a + _
    rw [List.idxOf_cons_self]
    congr 1
    rw [sumL_congr W (g := fun w => h ((a :: W).idxOf w) * x w) (h := fun w => h (W.idxOf w + 1) * x w) fun w hw => by
      have hne : (a == w) = false := by
        rw [beq_eq_false_iff_ne]
        rintro rfl; exact nd'.1 hw
      rw [List.idxOf_cons, hne]; rfl]
    exact ih
def nm (N : Nat) : List Int := (List.range N).map fun (i : Nat) => (i : Int)
theorem mem_nm {N : Nat} {v : Int} : v ∈ nm N ↔ 0 ≤ v ∧ v < N := by
  unfold nm
  rw [List.mem_map]
  constructor
  · rintro ⟨i, hi, rfl⟩
    have := List.mem_range.mp hi
    omega
  · rintro ⟨h1, h2⟩
    exact ⟨v.toNat, List.mem_range.mpr (by omega), by omega⟩
def sOf (R : List (List Int)) (I O : List Int) : CC.S := ⟨O, fun v w => rg (R.getD ((I ++ [-1]).idxOf v) []) ((-2 :: O).idxOf w + 1) / rg (R.getD ((I ++ [-1]).idxOf v) []) 0⟩
section
variable {N : Nat} {R : List (List Int)} {I O : List Int} {at' col : Nat} {V : (Int → Rat) → Prop}
theorem TI.nonneg (t : TI N R I O) {v : Int} (h : v ∈ I ∨ v ∈ O) : 0 ≤ v := ((t.mem v).mp (List.mem_append.mpr h)).1
theorem TI.ndI (t : TI N R I O) : (I ++ [-1]).Nodup := by
  rw [List.nodup_append]
  refine ⟨(List.nodup_append.mp t.nd).1, by simp, fun a ha b hb => ?_⟩
  have := t.nonneg (.inl ha)
  have : b = -1 := by simpa using hb
  omega
theorem TI.ndO (t : TI N R I O) : (-2 :: O).Nodup := by
  rw [List.nodup_cons]
  refine ⟨fun h => ?_, (List.nodup_append.mp t.nd).2.1⟩
  have := t.nonneg (.inr h)
  omega
theorem TI.disj (t : TI N R I O) {v : Int} (h : v ∈ I) (h' : v ∈ O) : False := (List.nodup_append.mp t.nd).2.2 v h v h' rfl
theorem TI.posk (t : TI N R I O) {k : Nat} (hk : k < R.length) : 0 < rg (R.getD k []) 0 := by
  have := t.pos _ (t.getR hk)
  unfold rg
  exact_mod_cast this
theorem getD_of_mem {W : List Int} {v : Int} (h : v ∈ W) : W.idxOf v < W.length ∧ W.getD (W.idxOf v) 0 = v := by
  have h1 := List.idxOf_lt_length_of_mem h
  refine ⟨h1, ?_⟩
  rw [List.getD_eq_getElem?_getD, List.getElem?_eq_getElem h1]
  exact List.getElem_idxOf h1
theorem idx_of_getD {W : List Int} (nd : W.Nodup) {k : Nat} (hk : k < W.length) : W.idxOf (W.getD k 0) = k := by
  have : W.getD k 0 = W[k] := by simp [hk]
  rw [this]
  exact nd.idxOf_getElem k hk
theorem getD_memW {W : List Int} {k : Nat} (hk : k < W.length) : W.getD k 0 ∈ W := by
  have : W.getD k 0 = W[k] := by simp [hk]
  rw [this]; exact List.getElem_mem hk
theorem rat_div_mul {a b : Rat} (hb : 0 < b) : b * (a / b) = a := by
  have : b ≠ 0 := by grind
  grind
theorem TI.ok (t : TI N R I O) (hV : ∀ x, V x ↔ Sat R I O x) : CC.Ok (nm N) V (sOf R I O) := by
  have hR := t.hR
  have inI : ∀ v, (v = -1 ∨ (v ∈ nm N ∧ (sOf R I O).inn v = true)) → v ∈ I ++ [-1] := by
    intro v hv
    rcases hv with rfl | ⟨h1, h2⟩
    · simp
    · have hm := (t.mem v).mpr (mem_nm.mp h1)
      rcases List.mem_append.mp hm with h | h
      · exact List.mem_append_left _ h
      · have := CC.S.inn_f (s := sOf R I O).mpr h
        rw [h2] at this; cases this
  have notO : ∀ v, v ∈ I ++ [-1] → v ∉ -2 :: O := by
    intro v hv hO
    rcases List.mem_append.mp hv with h | h
    · rcases List.mem_cons.mp hO with rfl | h'
      · have := t.nonneg (.inl h); omega
      · exact t.disj h h'
    · have hv1 : v = -1 := by simpa using h
      rcases List.mem_cons.mp hO with rfl | h'
      · omega
      · have := t.nonneg (.inr h'); omega
  have hlen : (I ++ [-1]).length = R.length := by simp; omega
  refine ⟨fun v hv => mem_nm.mpr ((t.mem v).mp (List.mem_append_right _ hv)), fun x hx v hv => ?_, fun w hw => ?_⟩
  · have hvI := inI v hv
    obtain ⟨k1, k2⟩ := getD_of_mem hvI
    have hs := (hV x).mp hx _ (by rw [← hlen]; exact k1)
    unfold rowE at hs
    rw [k2] at hs
    have hp := t.posk (k := (I ++ [-1]).idxOf v) (by rw [← hlen]; exact k1)
    have e := sumL_sm x (-2 :: O) (fun j => rg (R.getD ((I ++ [-1]).idxOf v) []) (j + 1) / rg (R.getD ((I ++ [-1]).idxOf v) []) 0) t.ndO
    rw [List.length_cons] at e
    have e2 : sm (O.length + 1) (fun j => rg (R.getD ((I ++ [-1]).idxOf v) []) (j + 1) * x ((-2 :: O).getD j 0)) = rg (R.getD ((I ++ [-1]).idxOf v) []) 0 * sm (O.length + 1) (fun j => rg (R.getD ((I ++ [-1]).idxOf v) []) (j + 1) / rg (R.getD ((I ++ [-1]).idxOf v) []) 0 * x ((-2 :: O).getD j 0)) := by
      rw [← sm_mul]
      refine sm_congr _ fun j _ => ?_
      rw [← Rat.mul_assoc, rat_div_mul hp]
    rw [e2] at hs
    have e3 : x v = sm (O.length + 1) (fun j => rg (R.getD ((I ++ [-1]).idxOf v) []) (j + 1) / rg (R.getD ((I ++ [-1]).idxOf v) []) 0 * x ((-2 :: O).getD j 0)) := by
      generalize sm (O.length + 1) (fun j => rg (R.getD ((I ++ [-1]).idxOf v) []) (j + 1) / rg (R.getD ((I ++ [-1]).idxOf v) []) 0 * x ((-2 :: O).getD j 0)) = s at *
      generalize rg (R.getD ((I ++ [-1]).idxOf v) []) 0 = f at *
      have : f * (x v - s) = 0 := by grind
      rcases Rat.mul_eq_zero.mp this with z | z <;> grind
    rw [e3, ← e]
    rfl
  · have hwO : w ∈ -2 :: O := by
      rcases hw with rfl | h
      · exact List.mem_cons_self
      · exact List.mem_cons_of_mem _ h
    obtain ⟨c1, c2⟩ := getD_of_mem hwO
    refine ⟨fun v => if v ∈ -2 :: O then (if v = w then 1 else 0) else (sOf R I O).al v w, (hV _).mpr ?_, ?_, ?_, ?_⟩
    · intro k hk
      have hkI : (I ++ [-1]).getD k 0 ∈ I ++ [-1] := getD_memW (by omega)
      have hidx : (I ++ [-1]).idxOf ((I ++ [-1]).getD k 0) = k := idx_of_getD t.ndI (by omega)
      unfold rowE
      dsimp only
      rw [if_neg (notO _ hkI)]
      show rg (R.getD k []) 0 * (rg (R.getD ((I ++ [-1]).idxOf ((I ++ [-1]).getD k 0)) []) ((-2 :: O).idxOf w + 1) / rg (R.getD ((I ++ [-1]).idxOf ((I ++ [-1]).getD k 0)) []) 0) = _
      rw [hidx, rat_div_mul (t.posk hk)]
      rw [List.length_cons] at c1
      rw [sm_split _ ((-2 :: O).idxOf w) (O.length + 1) c1, sm_zero (O.length + 1)]
      · rw [c2, if_pos hwO, if_pos rfl]; grind
      · intro j hj
        split
        · rfl
        · rename_i hne
          have hj2 : (-2 :: O).getD j 0 ∈ -2 :: O := getD_memW (by simpa using hj)
          rw [if_pos hj2, if_neg]
          · grind
          · intro z
            have := idx_of_getD t.ndO (k := j) (by simpa using hj)
            rw [z] at this
            exact hne this.symm
    · dsimp only
      rw [if_pos List.mem_cons_self]
      by_cases e : w = -2
      · rw [if_pos e, if_pos e.symm]
      · rw [if_neg e, if_neg (fun z => e z.symm)]
    · intro w' hw'
      dsimp only
      rw [if_pos (show w' ∈ -2 :: O from List.mem_cons_of_mem _ hw')]
    · intro v hv
      dsimp only
      rw [if_neg (notO v (inI v hv))]
end
end W86
set_option linter.all false
set_option maxRecDepth 100000
set_option maxHeartbeats 1000000
/-! C7: what the method decides is a step. -/
namespace W86
open MP
theorem foldl_min : ∀ (r : List Int) (i : Int), let m := r.foldl (fun a b => if b < a then b else a) i; (m = i ∨ m ∈ r) ∧ m ≤ i ∧ ∀ a ∈ r, m ≤ a
  | [], i => ⟨.inl rfl, Int.le_refl _, fun a h => by cases h⟩
  | b :: r, i => by
    obtain ⟨h1, h2, h3⟩ := foldl_min r (if b < i then b else i)
    dsimp only at *
    show (List.foldl _ _ (b :: r) = i ∨ _) ∧ _
    rw [List.foldl_cons]
    generalize r.foldl (fun a b => if b < a then b else a) (if b < i then b else i) = m at *
    refine ⟨?_, ?_, fun a ha => ?_⟩
    · rcases h1 with h | h
      · split at h
        · exact .inr (by rw [h]; exact List.mem_cons_self)
        · exact .inl h
      · exact .inr (List.mem_cons_of_mem _ h)
    · split at h2 <;> omega
    · rcases List.mem_cons.mp ha with rfl | ha
      · split at h2 <;> omega
      · exact h3 a ha
theorem minI_some {l : List Int} {m : Int} (h : minI l = some m) : m ∈ l ∧ ∀ a ∈ l, m ≤ a := by
  cases l with
  | nil => cases h
  | cons i r =>
    have e : minI (i :: r) = some (r.foldl (fun a b => if b < a then b else a) i) := rfl
    rw [e] at h
    obtain ⟨h1, h2, h3⟩ := foldl_min r i
    cases h
    refine ⟨?_, fun a ha => ?_⟩
    · rcases h1 with h | h
      · rw [h]; exact List.mem_cons_self
      · exact List.mem_cons_of_mem _ h
    · rcases List.mem_cons.mp ha with rfl | ha
      · exact h2
      · exact h3 a ha
theorem minI_none {l : List Int} (h : minI l = none) : l = [] := by
  cases l with
  | nil => rfl
  | cons i r => cases h
/-- what is found among the first places -/
def Sel (p : Nat → Bool) (w : List Int) (i : Nat) : Option Nat → Prop
  | none => ∀ k, k < i → p k = false
  | some j => j < i ∧ p j = true ∧ ∀ k, k < i → p k = true → w.getD j 0 ≤ w.getD k 0
theorem sel_spec (p : Nat → Bool) (w : List Int) : ∀ (m i : Nat) (b : Option Nat), Sel p w i b → Sel p w (i + m) (selF p w m i b)
  | 0, i, b, h => h
  | m + 1, i, b, h => by
    have e : i + (m + 1) = (i + 1) + m := by omega
    rw [e]
    refine sel_spec p w m (i + 1) _ ?_
    cases hp : p i with
    | false =>
      simp only [Bool.false_and, Bool.false_eq_true, if_false]
      cases b with
      | none =>
        intro k hk
        by_cases e : k = i
        · rw [e]; exact hp
        · exact h k (by omega)
      | some j =>
        obtain ⟨h1, h2, h3⟩ := h
        refine ⟨by omega, h2, fun k hk hpk => ?_⟩
        by_cases e : k = i
        · rw [e, hp] at hpk; cases hpk
        · exact h3 k (by omega) hpk
    | true =>
      simp only [Bool.true_and]
      cases b with
      | none =>
        rw [if_pos (show better w i none = true from rfl)]
        refine ⟨by omega, hp, fun k hk hpk => ?_⟩
        by_cases e : k = i
        · rw [e]; omega
        · have := h k (by omega)
          rw [hpk] at this; cases this
      | some j =>
        obtain ⟨h1, h2, h3⟩ := h
        by_cases hb : w.getD i 0 < w.getD j 0
        · rw [if_pos (show better w i (some j) = true from decide_eq_true hb)]
          refine ⟨by omega, hp, fun k hk hpk => ?_⟩
          by_cases e : k = i
          · rw [e]; omega
          · have := h3 k (by omega) hpk
            omega
        · rw [if_neg (show ¬ better w i (some j) = true from fun z => hb (of_decide_eq_true z))]
          refine ⟨by omega, h2, fun k hk hpk => ?_⟩
          by_cases e : k = i
          · rw [e]; omega
          · exact h3 k (by omega) hpk
theorem sel0 (p : Nat → Bool) (w : List Int) (m : Nat) : Sel p w m (selF p w m 0 none) := by
  have := sel_spec p w m 0 none (fun k hk => absurd hk (by omega))
  rwa [Nat.zero_add] at this
theorem mem_takes {p : Nat → Bool} {w : List Int} {v : Int} : v ∈ takes p w ↔ ∃ k, k < w.length ∧ p k = true ∧ w.getD k 0 = v := by
  unfold takes
  rw [List.mem_map]
  constructor
  · rintro ⟨k, hk, rfl⟩
    rw [List.mem_filter, List.mem_range] at hk
    exact ⟨k, hk.1, hk.2, rfl⟩
  · rintro ⟨k, h1, h2, h3⟩
    exact ⟨k, by rw [List.mem_filter, List.mem_range]; exact ⟨h1, h2⟩, h3⟩
/-- what is done next -/
inductive Dec where
  | best | row (k : Nat) | column (k : Nat) | turn (k c : Nat)
def decT (R : List (List Int)) (I O : List Int) : Dec := match minI (wrongL R I O) with
  | none => .best
  | some v => if v ∈ I then (match outP R O O.length (I.idxOf v) with
    | none => .row (I.idxOf v)
    | some c => .turn (I.idxOf v) c) else (match inP R I (O.idxOf v) with
    | none => .column (O.idxOf v)
    | some k => .turn k (O.idxOf v))
section
variable {N : Nat} {R : List (List Int)} {I O : List Int} {at' col : Nat}
theorem rg_sign {r : List Int} {j : Nat} : (rg r j < 0 ↔ r.getD j 0 < 0) ∧ (0 < rg r j ↔ 0 < r.getD j 0) := by
  unfold rg
  exact ⟨by exact_mod_cast Iff.rfl, by exact_mod_cast Iff.rfl⟩
theorem div_sign {a f : Rat} (hf : 0 < f) : (a / f < 0 ↔ a < 0) ∧ (0 < a / f ↔ 0 < a) := by
  have e := rat_div_mul (a := a) hf
  generalize a / f = q at *
  subst e
  constructor
  · constructor
    · intro h
      have := Rat.mul_pos (a := f) (b := -q) hf (by grind)
      grind
    · intro h
      apply Classical.byContradiction
      intro z
      have := Rat.mul_nonneg (a := f) (b := q) (by grind) (by grind)
      grind
  · constructor
    · intro h; exact Rat.mul_pos hf h
    · intro h
      apply Classical.byContradiction
      intro z
      have := Rat.mul_nonneg (a := f) (b := -q) (by grind) (by grind)
      grind
theorem TI.idxI (t : TI N R I O) {k : Nat} (hk : k < I.length) : (I ++ [-1]).idxOf (I.getD k 0) = k := by
  have h := idx_of_getD t.ndI (k := k) (by simp; omega)
  have e : (I ++ [-1]).getD k 0 = I.getD k 0 := by
    simp [List.getD_eq_getElem?_getD, List.getElem?_append_left hk]
  rwa [e] at h
theorem TI.idxL (t : TI N R I O) : (I ++ [-1]).idxOf (-1) = I.length := by
  have h := idx_of_getD t.ndI (k := I.length) (by simp)
  have e : (I ++ [-1]).getD I.length 0 = -1 := by simp
  rwa [e] at h
theorem TI.idxO (t : TI N R I O) {c : Nat} (hc : c < O.length) : (-2 :: O).idxOf (O.getD c 0) = c + 1 := by
  have h := idx_of_getD t.ndO (k := c + 1) (by simpa using hc)
  exact h
theorem TI.al (t : TI N R I O) {k c : Nat} (hk : k < I.length) (hc : c < O.length) : (sOf R I O).al (I.getD k 0) (O.getD c 0) = rg (R.getD k []) (c + 2) / rg (R.getD k []) 0 := by
  show rg (R.getD ((I ++ [-1]).idxOf _) []) _ / _ = _
  rw [t.idxI hk, t.idxO hc]
theorem TI.al0 (t : TI N R I O) {k : Nat} (hk : k < I.length) : (sOf R I O).al (I.getD k 0) (-2) = rg (R.getD k []) 1 / rg (R.getD k []) 0 := by
  show rg (R.getD ((I ++ [-1]).idxOf _) []) ((-2 :: O).idxOf (-2) + 1) / _ = _
  rw [t.idxI hk, List.idxOf_cons_self]
theorem TI.alz (t : TI N R I O) {c : Nat} (hc : c < O.length) : (sOf R I O).al (-1) (O.getD c 0) = rg (R.getD (R.length - 1) []) (c + 2) / rg (R.getD (R.length - 1) []) 0 := by
  show rg (R.getD ((I ++ [-1]).idxOf _) []) _ / _ = _
  have := t.hR
  rw [t.idxL, t.idxO hc, show I.length = R.length - 1 by omega]
theorem TI.innI (t : TI N R I O) {v : Int} (h : v ∈ I) : (sOf R I O).inn v = true := by
  cases q : (sOf R I O).inn v with
  | true => rfl
  | false => exact absurd (CC.S.inn_f.mp q) (fun z => t.disj h z)
theorem TI.innO (t : TI N R I O) {v : Int} (h : v ∈ O) : (sOf R I O).inn v = false := CC.S.inn_f.mpr h
theorem TI.cases (t : TI N R I O) {v : Int} (h : v ∈ nm N) : (∃ k, k < I.length ∧ v = I.getD k 0) ∨ ∃ c, c < O.length ∧ v = O.getD c 0 := by
  have hm := (t.mem v).mpr (mem_nm.mp h)
  rcases List.mem_append.mp hm with h | h
  · obtain ⟨k1, k2⟩ := getD_of_mem h
    exact .inl ⟨_, k1, k2.symm⟩
  · obtain ⟨k1, k2⟩ := getD_of_mem h
    exact .inr ⟨_, k1, k2.symm⟩
theorem TI.nmI (t : TI N R I O) {k : Nat} (hk : k < I.length) : I.getD k 0 ∈ nm N := mem_nm.mpr ((t.mem _).mp (List.mem_append_left _ (getD_memW hk)))
theorem TI.nmO (t : TI N R I O) {k : Nat} (hk : k < O.length) : O.getD k 0 ∈ nm N := mem_nm.mpr ((t.mem _).mp (List.mem_append_right _ (getD_memW hk)))
/-- a name is wrong -/
theorem wrong_I (t : TI N R I O) {k : Nat} (hk : k < I.length) : I.getD k 0 ∈ wrongL R I O ↔ (R.getD k []).getD 1 0 < 0 := by
  unfold wrongL
  rw [List.mem_append, mem_takes, mem_takes]
  constructor
  · rintro (⟨j, h1, h2, h3⟩ | ⟨j, h1, h2, h3⟩)
    · have hj := idx_of_getD (List.nodup_append.mp t.nd).1 h1
      rw [h3, idx_of_getD (List.nodup_append.mp t.nd).1 hk] at hj
      rw [hj]
      exact of_decide_eq_true h2
    · exact (t.disj (getD_memW hk) (by rw [← h3]; exact getD_memW h1)).elim
  · intro h
    exact .inl ⟨k, hk, decide_eq_true h, rfl⟩
theorem wrong_O (t : TI N R I O) {k : Nat} (hk : k < O.length) : O.getD k 0 ∈ wrongL R I O ↔ (R.getD (R.length - 1) []).getD (k + 2) 0 < 0 := by
  unfold wrongL
  rw [List.mem_append, mem_takes, mem_takes]
  constructor
  · rintro (⟨j, h1, h2, h3⟩ | ⟨j, h1, h2, h3⟩)
    · exact (t.disj (by rw [← h3]; exact getD_memW h1) (getD_memW hk)).elim
    · have hj := idx_of_getD (List.nodup_append.mp t.nd).2.1 h1
      rw [h3, idx_of_getD (List.nodup_append.mp t.nd).2.1 hk] at hj
      rw [hj]
      exact of_decide_eq_true h2
  · intro h
    exact .inr ⟨k, hk, decide_eq_true h, rfl⟩
theorem fine_of (t : TI N R I O) {v : Int} (hv : v ∈ nm N) (h : v ∉ wrongL R I O) : CC.Fine (sOf R I O) v := by
  have hR := t.hR
  rcases t.cases hv with ⟨k, hk, rfl⟩ | ⟨k, hk, rfl⟩
  · rw [wrong_I t hk] at h
    unfold CC.Fine
    rw [if_pos (t.innI (getD_memW hk)), t.al0 hk]
    have h1 := (div_sign (a := rg (R.getD k []) 1) (t.posk (k := k) (by omega))).1
    rw [rg_sign.1] at h1
    exact Rat.not_lt.mp fun z => h (h1.mp z)
  · rw [wrong_O t hk] at h
    unfold CC.Fine
    rw [if_neg (by rw [t.innO (getD_memW hk)]; decide), t.alz hk]
    have h1 := (div_sign (a := rg (R.getD (R.length - 1) []) (k + 2)) (t.posk (k := R.length - 1) (by omega))).1
    rw [rg_sign.1] at h1
    exact Rat.not_lt.mp fun z => h (h1.mp z)
theorem wrong_mem (t : TI N R I O) {v : Int} (h : v ∈ wrongL R I O) : v ∈ I ∨ v ∈ O := by
  unfold wrongL at h
  rcases List.mem_append.mp h with h | h
  · obtain ⟨k, h1, _, h3⟩ := mem_takes.mp h
    rw [← h3]; exact .inl (getD_memW h1)
  · obtain ⟨k, h1, _, h3⟩ := mem_takes.mp h
    rw [← h3]; exact .inr (getD_memW h1)
/-- what the decision tells -/
inductive DecS (R : List (List Int)) (I O : List Int) : Dec → Prop
  | best (h : wrongL R I O = []) : DecS R I O .best
  | row (k : Nat) (hk : k < I.length) (hb : (R.getD k []).getD 1 0 < 0) (h : ∀ c, c < O.length → (R.getD k []).getD (c + 2) 0 ≤ 0) : DecS R I O (.row k)
  | column (c : Nat) (hc : c < O.length) (hb : (R.getD (R.length - 1) []).getD (c + 2) 0 < 0) (h : ∀ k, k < I.length → 0 ≤ (R.getD k []).getD (c + 2) 0) : DecS R I O (.column c)
  | turnI (k c : Nat) (hk : k < I.length) (hc : c < O.length) (hw : I.getD k 0 ∈ wrongL R I O) (hl : ∀ v ∈ wrongL R I O, I.getD k 0 ≤ v) (hp : 0 < (R.getD k []).getD (c + 2) 0) (h : ∀ j, j < O.length → 0 < (R.getD k []).getD (j + 2) 0 → O.getD c 0 ≤ O.getD j 0) : DecS R I O (.turn k c)
  | turnO (k c : Nat) (hk : k < I.length) (hc : c < O.length) (hw : O.getD c 0 ∈ wrongL R I O) (hl : ∀ v ∈ wrongL R I O, O.getD c 0 ≤ v) (hp : (R.getD k []).getD (c + 2) 0 < 0) (h : ∀ j, j < I.length → (R.getD j []).getD (c + 2) 0 < 0 → I.getD k 0 ≤ I.getD j 0) : DecS R I O (.turn k c)
theorem decS (t : TI N R I O) : DecS R I O (decT R I O) := by
  unfold decT
  cases q : minI (wrongL R I O) with
  | none => exact .best (minI_none q)
  | some v =>
    obtain ⟨h1, h2⟩ := minI_some q
    dsimp only
    by_cases hI : v ∈ I
    · rw [if_pos hI]
      obtain ⟨k1, k2⟩ := getD_of_mem hI
      have hs := sel0 (fun k => decide (0 < (R.getD (I.idxOf v) []).getD (k + 2) 0)) O O.length
      have eo : outP R O O.length (I.idxOf v) = selF (fun k => decide (0 < (R.getD (I.idxOf v) []).getD (k + 2) 0)) O O.length 0 none := rfl
      rw [eo]
      cases q2 : selF (fun k => decide (0 < (R.getD (I.idxOf v) []).getD (k + 2) 0)) O O.length 0 none with
      | none =>
        rw [q2] at hs
        refine .row _ k1 ((wrong_I t k1).mp (by rw [k2]; exact h1)) fun c hc => ?_
        have := of_decide_eq_false (hs c hc)
        omega
      | some c =>
        rw [q2] at hs
        obtain ⟨s1, s2, s3⟩ := hs
        exact .turnI _ c k1 s1 (by rw [k2]; exact h1) (by rw [k2]; exact h2) (of_decide_eq_true s2) fun j hj hp => s3 j hj (decide_eq_true hp)
    · rw [if_neg hI]
      have hO : v ∈ O := (wrong_mem t h1).resolve_left hI
      obtain ⟨k1, k2⟩ := getD_of_mem hO
      have hs := sel0 (fun k => decide ((R.getD k []).getD (O.idxOf v + 2) 0 < 0)) I I.length
      have eo : inP R I (O.idxOf v) = selF (fun k => decide ((R.getD k []).getD (O.idxOf v + 2) 0 < 0)) I I.length 0 none := rfl
      rw [eo]
      cases q2 : selF (fun k => decide ((R.getD k []).getD (O.idxOf v + 2) 0 < 0)) I I.length 0 none with
      | none =>
        rw [q2] at hs
        refine .column _ k1 ((wrong_O t k1).mp (by rw [k2]; exact h1)) fun c hc => ?_
        have := of_decide_eq_false (hs c hc)
        omega
      | some c =>
        rw [q2] at hs
        obtain ⟨s1, s2, s3⟩ := hs
        exact .turnO c _ s1 k1 (by rw [k2]; exact h1) (by rw [k2]; exact h2) (of_decide_eq_true s2) fun j hj hp => s3 j hj (decide_eq_true hp)
/-- a turn is a step -/
theorem step_of (t : TI N R I O) {k c : Nat} (h : DecS R I O (.turn k c)) : Piv R k c ∧ k < I.length ∧ c < O.length ∧ CC.Step (nm N) (sOf R I O) (sOf (turnR R k c) (I.set k (O.getD c 0)) (O.set c (I.getD k 0))) := by
  have hR := t.hR
  have hnew : ∀ v ∈ nm N, k < I.length → c < O.length → (sOf (turnR R k c) (I.set k (O.getD c 0)) (O.set c (I.getD k 0))).inn v = if v = I.getD k 0 then false else if v = O.getD c 0 then true else (sOf R I O).inn v := by
    intro v hv hk hc
    have hmem : v ∈ O.set c (I.getD k 0) ↔ v = I.getD k 0 ∨ (v ∈ O ∧ v ≠ O.getD c 0) := by
      constructor
      · intro hm
        obtain ⟨j, hj, e⟩ := List.mem_iff_getElem.mp hm
        rw [List.getElem_set] at e
        split at e
        · exact .inl e.symm
        · rename_i hne
          rw [List.length_set] at hj
          refine .inr ⟨by rw [← e]; exact List.getElem_mem _, fun z => ?_⟩
          have e1 := idx_of_getD (List.nodup_append.mp t.nd).2.1 hj
          have e2 := idx_of_getD (List.nodup_append.mp t.nd).2.1 hc
          have : O.getD j 0 = O[j] := by simp [hj]
          rw [this, e, z, e2] at e1
          exact hne e1
      · rintro (rfl | ⟨h1, h2⟩)
        · exact List.mem_iff_getElem.mpr ⟨c, by simpa using hc, by simp⟩
        · obtain ⟨j, hj, rfl⟩ := List.mem_iff_getElem.mp h1
          refine List.mem_iff_getElem.mpr ⟨j, by simpa using hj, ?_⟩
          rw [List.getElem_set, if_neg]
          rintro rfl
          apply h2
          simp [hj]
    cases q : (sOf (turnR R k c) (I.set k (O.getD c 0)) (O.set c (I.getD k 0))).inn v with
    | false =>
      rcases hmem.mp (CC.S.inn_f.mp q) with rfl | ⟨h1, h2⟩
      · rw [if_pos rfl]
      · rw [if_neg (by rintro rfl; exact t.disj (getD_memW hk) h1), if_neg h2, t.innO h1]
    | true =>
      have hn : ¬ v ∈ O.set c (I.getD k 0) := fun z => by
        have := (CC.S.inn_f (s := sOf (turnR R k c) (I.set k (O.getD c 0)) (O.set c (I.getD k 0)))).mpr z
        rw [q] at this; cases this
      rw [hmem] at hn
      rw [if_neg (fun z => hn (.inl z))]
      by_cases e : v = O.getD c 0
      · rw [if_pos e]
      · rw [if_neg e]
        cases q2 : (sOf R I O).inn v with
        | true => rfl
        | false => exact absurd (.inr ⟨CC.S.inn_f.mp q2, e⟩) hn
  cases h with
  | turnI _ _ hk hc hw hl hp hs =>
    have hf := t.posk (k := k) (by omega)
    refine ⟨?_, hk, hc, .inner (I.getD k 0) (O.getD c 0) (t.nmI hk) (getD_memW hc) (t.innI (getD_memW hk)) ?_ (fun v hv hlt => ?_) ?_ (fun w hw hlt => ?_) fun v hv => hnew v hv hk hc⟩
    · unfold Piv; omega
    · rw [t.al0 hk, (div_sign hf).1, rg_sign.1]
      exact (wrong_I t hk).mp hw
    · exact fine_of t hv fun z => by have := hl v z; omega
    · rw [t.al hk hc, (div_sign hf).2, rg_sign.2]; exact hp
    · obtain ⟨k1, k2⟩ := getD_of_mem (W := O) hw
      rw [← k2, t.al hk k1]
      refine Rat.not_lt.mp fun z => ?_
      rw [(div_sign hf).2, rg_sign.2] at z
      have := hs _ k1 z
      rw [k2] at this
      omega
  | turnO _ _ hk hc hw hl hp hs =>
    have hf := t.posk (k := k) (by omega)
    refine ⟨?_, hk, hc, .outer (O.getD c 0) (I.getD k 0) (getD_memW hc) (t.nmI hk) (t.innI (getD_memW hk)) ?_ (fun v hv hlt => ?_) ?_ (fun w hw hwi hlt => ?_) fun v hv => hnew v hv hk hc⟩
    · unfold Piv; omega
    · rw [t.alz hc, (div_sign (t.posk (k := R.length - 1) (by omega))).1, rg_sign.1]
      exact (wrong_O t hc).mp hw
    · exact fine_of t hv fun z => by have := hl v z; omega
    · rw [t.al hk hc, (div_sign hf).1, rg_sign.1]; exact hp
    · rcases t.cases hw with ⟨j, hj, rfl⟩ | ⟨j, hj, rfl⟩
      · rw [t.al hj hc]
        refine Rat.not_lt.mp fun z => ?_
        rw [(div_sign (t.posk (k := j) (by omega))).1, rg_sign.1] at z
        have := hs j hj z
        omega
      · rw [t.innO (getD_memW hj)] at hwi; cases hwi
end
end W86
set_option linter.all false
set_option maxRecDepth 100000
set_option maxHeartbeats 1000000
/-! C8: the method ends. -/
namespace W86
open MP
structure Tb where
  R : List (List Int)
  I : List Int
  O : List Int
def Tb.dec (s : Tb) : Dec := decT s.R s.I s.O
def Tb.ti (N : Nat) (s : Tb) : Prop := TI N s.R s.I s.O
def Tb.sat (s : Tb) (x : Int → Rat) : Prop := Sat s.R s.I s.O x
def Tb.tn (s : Tb) (k c : Nat) : Tb := ⟨turnR s.R k c, s.I.set k (s.O.getD c 0), s.O.set c (s.I.getD k 0)⟩
def Tb.next (s : Tb) : Tb := match s.dec with
  | .turn k c => s.tn k c
  | _ => s
def Tb.goes (s : Tb) : Prop := ∃ k c, s.dec = .turn k c
def Tb.it (s : Tb) : Nat → Tb
  | 0 => s
  | i + 1 => (s.it i).next
/-- what stays: kind, solutions, lengths -/
structure Kin (N : Nat) (s t : Tb) : Prop where
  ti : t.ti N
  sat : ∀ x, s.sat x ↔ t.sat x
  lR : t.R.length = s.R.length
  lI : t.I.length = s.I.length
  lO : t.O.length = s.O.length
theorem Kin.next {N : Nat} {s t : Tb} (h : Kin N s t) : Kin N s t.next := by
  unfold Tb.next
  cases q : t.dec with
  | best => exact h
  | row k => exact h
  | column k => exact h
  | turn k c =>
    have hd := decS h.ti
    have q' : decT t.R t.I t.O = .turn k c := q
    rw [q'] at hd
    obtain ⟨s1, s2, s3, _⟩ := step_of h.ti hd
    refine ⟨TI.turn h.ti s2 s3 s1, fun x => ?_, ?_, ?_, ?_⟩
    · rw [h.sat x]
      exact Sat.turn h.ti s2 s3 s1 x
    · rw [← h.lR]; exact turnR_len
    · rw [← h.lI]; exact List.length_set
    · rw [← h.lO]; exact List.length_set
theorem Kin.it {N : Nat} {s : Tb} (h : s.ti N) : ∀ i, Kin N s (s.it i)
  | 0 => ⟨h, fun _ => Iff.rfl, rfl, rfl, rfl⟩
  | i + 1 => (Kin.it h i).next
theorem step_it {N : Nat} {s t : Tb} (h : Kin N s t) (hg : t.goes) : CC.Step (nm N) (sOf t.R t.I t.O) (sOf t.next.R t.next.I t.next.O) := by
  obtain ⟨k, c, q⟩ := hg
  have hd := decS h.ti
  have q' : decT t.R t.I t.O = .turn k c := q
  rw [q'] at hd
  have := (step_of h.ti hd).2.2.2
  unfold Tb.next
  rw [q]
  exact this
def bas (N : Nat) (t : Tb) : List Nat := (nm N).map fun v => if (sOf t.R t.I t.O).inn v = true then 1 else 0
theorem ends {N : Nat} {s : Tb} (h : s.ti N) : ∃ T, T ≤ 2 ^ N ∧ (∀ i, i < T → (s.it i).goes) ∧ ¬ (s.it T).goes := by
  apply Classical.byContradiction
  intro hno
  have hall : ∀ i, i ≤ 2 ^ N → ∀ j, j < i → (s.it j).goes := by
    intro i
    induction i with
    | zero => intro _ j hj; omega
    | succ i ih =>
      intro hi j hj
      by_cases e : j = i
      · subst e
        apply Classical.byContradiction
        intro z
        exact hno ⟨j, by omega, ih (by omega), z⟩
      · exact ih (by omega) j (by omega)
  have hall2 : ∀ i, i < 2 ^ N + 1 → (s.it i).goes := by
    intro i hi
    by_cases e : i < 2 ^ N
    · exact hall (2 ^ N) (Nat.le_refl _) i e
    · apply Classical.byContradiction
      intro z
      exact hno ⟨i, by omega, hall i (by omega), z⟩
  obtain ⟨i, j, hij, hj, he⟩ := CC.pigeon (P := 2 ^ N + 1) (Q := 2 ^ N) (f := fun i => CC.enc 2 (bas N (s.it i))) (fun i _ => by
    have := CC.enc_lt (B := 2) (bas N (s.it i)) (fun x hx => by
      obtain ⟨v, _, rfl⟩ := List.mem_map.mp hx
      split <;> omega)
    have hl : (bas N (s.it i)).length = N := by simp [bas, nm]
    rwa [hl] at this) (by omega)
  have he2 := CC.enc_inj (B := 2) (bas N (s.it i)) (bas N (s.it j)) (by simp [bas]) (fun x hx => by
      obtain ⟨v, _, rfl⟩ := List.mem_map.mp hx
      split <;> omega) (fun x hx => by
      obtain ⟨v, _, rfl⟩ := List.mem_map.mp hx
      split <;> omega) he
  obtain ⟨v, hv, hne⟩ := CC.nocycle (names := nm N) (V := s.sat) (fun v hv => (mem_nm.mp hv).1) (s := fun i => sOf (s.it i).R (s.it i).I (s.it i).O) (T := 2 ^ N + 1) (fun i hi => TI.ok (Kin.it h i).ti (Kin.it h i).sat) (fun i hi => step_it (Kin.it h i) (hall2 i hi)) i j hij (by omega)
  apply hne
  have := List.map_inj_left.mp he2 v hv
  cases q1 : (sOf (s.it i).R (s.it i).I (s.it i).O).inn v <;> cases q2 : (sOf (s.it j).R (s.it j).I (s.it j).O).inn v
  · rfl
  · rw [q1, q2] at this; simp at this
  · rw [q1, q2] at this; simp at this
  · rfl
end W86
set_option linter.all false
set_option maxRecDepth 100000
set_option maxHeartbeats 1000000
/-! C9: the numbers of a table stay small. -/
namespace W86
open MP CC
theorem sumL_app (g : Int → Rat) : ∀ A B : List Int, sumL (A ++ B) g = sumL A g + sumL B g
  | [], B => by show sumL B g = 0 + sumL B g; grind
  | a :: A, B => by
    show g a + sumL (A ++ B) g = (g a + sumL A g) + sumL B g
    rw [sumL_app g A B]; grind
theorem sumL_perm (g : Int → Rat) {A B : List Int} (h : A.Perm B) : sumL A g = sumL B g := by
  induction h with
  | nil => rfl
  | cons a _ ih => show g a + _ = g a + _; rw [ih]
  | swap a b l => show g b + (g a + sumL l g) = g a + (g b + sumL l g); grind
  | trans _ _ ih1 ih2 => rw [ih1, ih2]
theorem sumL_add (g h : Int → Rat) : ∀ A : List Int, sumL A (fun w => g w + h w) = sumL A g + sumL A h
  | [] => by show (0 : Rat) = 0 + 0; grind
  | a :: A => by
    show (g a + h a) + sumL A (fun w => g w + h w) = (g a + sumL A g) + (h a + sumL A h)
    rw [sumL_add g h A]; grind
theorem sumL_mul (k : Rat) (g : Int → Rat) : ∀ A : List Int, sumL A (fun w => k * g w) = k * sumL A g
  | [] => by show (0 : Rat) = k * 0; grind
  | a :: A => by
    show k * g a + sumL A (fun w => k * g w) = k * (g a + sumL A g)
    rw [sumL_mul k g A]; grind
theorem sumL_zero {g : Int → Rat} : ∀ A : List Int, (∀ w ∈ A, g w = 0) → sumL A g = 0
  | [], _ => rfl
  | a :: A, h => by
    show g a + sumL A g = 0
    rw [h a List.mem_cons_self, sumL_zero A fun w hw => h w (List.mem_cons_of_mem _ hw)]; grind
theorem sumL_one {g : Int → Rat} {v : Int} : ∀ A : List Int, A.Nodup → v ∈ A → (∀ w ∈ A, w ≠ v → g w = 0) → sumL A g = g v
  | [], _, h, _ => by cases h
  | a :: A, nd, hv, h => by
    have nd' := List.nodup_cons.mp nd
    show g a + sumL A g = g v
    by_cases e : a = v
    · subst e
      rw [sumL_zero A fun w hw => h w (List.mem_cons_of_mem _ hw) (by rintro rfl; exact nd'.1 hw)]; grind
    · rw [h a List.mem_cons_self e]
      have hv' : v ∈ A := (List.mem_cons.mp hv).resolve_left (fun z => e z.symm)
      rw [sumL_one A nd'.2 hv' fun w hw hne => h w (List.mem_cons_of_mem _ hw) hne]; grind
theorem getD_out {r : List Int} {j : Nat} (h : r.length ≤ j) : r.getD j 0 = 0 := by
  rw [List.getD_eq_getElem?_getD, List.getElem?_eq_none h]; rfl
/-- the number of a name in a row's equation -/
def cf (R : List (List Int)) (I O : List Int) (l : Nat) (w : Int) : Int := (if (I ++ [-1]).getD l 0 = w then (R.getD l []).getD 0 0 else 0) - (R.getD l []).getD ((-2 :: O).idxOf w + 1) 0
def allN (I O : List Int) : List Int := (I ++ [-1]) ++ (-2 :: O)
section
variable {N : Nat} {R : List (List Int)} {I O : List Int}
theorem TI.dis2 (t : TI N R I O) {v : Int} (h : v ∈ I ++ [-1]) (h' : v ∈ -2 :: O) : False := by
  rcases List.mem_append.mp h with h | h
  · rcases List.mem_cons.mp h' with rfl | h'
    · have := t.nonneg (.inl h); omega
    · exact t.disj h h'
  · have hv1 : v = -1 := by simpa using h
    rcases List.mem_cons.mp h' with rfl | h'
    · omega
    · have := t.nonneg (.inr h'); omega
theorem TI.ndA (t : TI N R I O) : (allN I O).Nodup := by
  unfold allN
  rw [List.nodup_append]
  exact ⟨t.ndI, t.ndO, fun a ha b hb e => t.dis2 ha (by rw [e]; exact hb)⟩
theorem TI.cfI (t : TI N R I O) {l : Nat} (hl : l < R.length) {w : Int} (h : w ∈ I ++ [-1]) : cf R I O l w = if (I ++ [-1]).getD l 0 = w then (R.getD l []).getD 0 0 else 0 := by
  unfold cf
  have h1 : (-2 :: O).idxOf w = (-2 :: O).length := List.idxOf_eq_length (fun z => t.dis2 h z)
  have h2 : (R.getD l []).getD ((-2 :: O).idxOf w + 1) 0 = 0 := by
    rw [h1]
    refine getD_out ?_
    rw [t.rl hl]
    simp
  rw [h2]; omega
theorem TI.cfO (t : TI N R I O) {l : Nat} (hl : l < R.length) {w : Int} (h : w ∈ -2 :: O) : cf R I O l w = -(R.getD l []).getD ((-2 :: O).idxOf w + 1) 0 := by
  unfold cf
  have hR := t.hR
  rw [if_neg]
  · omega
  · intro z
    exact t.dis2 (getD_memW (W := I ++ [-1]) (k := l) (by simp; omega)) (by rw [z]; exact h)
theorem TI.eqn (t : TI N R I O) {l : Nat} (hl : l < R.length) {u : Int → Rat} (hu : Sat R I O u) : sumL (allN I O) (fun w => ((cf R I O l w : Int) : Rat) * u w) = 0 := by
  have hR := t.hR
  unfold allN
  rw [sumL_app]
  have hm : (I ++ [-1]).getD l 0 ∈ I ++ [-1] := getD_memW (by simp; omega)
  have e1 : sumL (I ++ [-1]) (fun w => ((cf R I O l w : Int) : Rat) * u w) = rg (R.getD l []) 0 * u ((I ++ [-1]).getD l 0) := by
    rw [sumL_one (v := (I ++ [-1]).getD l 0) _ t.ndI hm]
    · rw [t.cfI hl hm, if_pos rfl]; rfl
    · intro w hw hne
      rw [t.cfI hl hw, if_neg (fun z => hne z.symm)]
      have : (((0 : Int) : Rat)) = 0 := rfl
      rw [this]; grind
  have e2 : sumL (-2 :: O) (fun w => ((cf R I O l w : Int) : Rat) * u w) = -sm (O.length + 1) (fun j => rg (R.getD l []) (j + 1) * u ((-2 :: O).getD j 0)) := by
    have h := sumL_sm u (-2 :: O) (fun j => rg (R.getD l []) (j + 1)) t.ndO
    rw [List.length_cons] at h
    rw [← h, ← sumL_neg]
    refine sumL_congr _ fun w hw => ?_
    rw [t.cfO hl hw, Rat.intCast_neg]
    show -(rg (R.getD l []) ((-2 :: O).idxOf w + 1)) * u w = _
    grind
  rw [e1, e2]
  have := hu l hl
  unfold rowE at this
  rw [this]
  grind
end
theorem swapS (cf : Nat → Int → Int) (u : Int → Rat) (A : List Int) : ∀ (ls : List Nat) (la : List Int), (∀ l ∈ ls, sumL A (fun w => ((cf l w : Int) : Rat) * u w) = 0) → sumL A (fun w => ((dotI (ls.map fun l => cf l w) la : Int) : Rat) * u w) = 0
  | [], la, _ => sumL_zero A fun w _ => by
    show (((0 : Int) : Rat)) * u w = 0
    have : (((0 : Int) : Rat)) = 0 := rfl
    rw [this]; grind
  | l :: ls, [], _ => sumL_zero A fun w _ => by
    show (((0 : Int) : Rat)) * u w = 0
    have : (((0 : Int) : Rat)) = 0 := rfl
    rw [this]; grind
  | l :: ls, x :: la, h => by
    have ih := swapS cf u A ls la fun m hm => h m (List.mem_cons_of_mem _ hm)
    have h1 := h l List.mem_cons_self
    have e : ∀ w ∈ A, ((dotI ((l :: ls).map fun l => cf l w) (x :: la) : Int) : Rat) * u w = (x : Rat) * (((cf l w : Int) : Rat) * u w) + ((dotI (ls.map fun l => cf l w) la : Int) : Rat) * u w := by
      intro w _
      have e2 : dotI ((l :: ls).map fun l => cf l w) (x :: la) = cf l w * x + dotI (ls.map fun l => cf l w) la := rfl
      rw [e2, Rat.intCast_add, Rat.intCast_mul]; grind
    rw [sumL_congr A e, sumL_add, sumL_mul, h1, ih]; grind
theorem dot_one : ∀ (c la : List Int) (l : Nat), (∀ j, j ≠ l → c.getD j 0 = 0) → c.length = la.length → dotI c la = c.getD l 0 * la.getD l 0
  | [], la, l, _, _ => by
    show (0 : Int) = ([] : List Int).getD l 0 * _
    simp
  | a :: c, [], l, _, h => by cases h
  | a :: c, x :: la, 0, h, hl => by
    have z : ∀ (c la : List Int), (∀ j, c.getD j 0 = 0) → dotI c la = 0 := by
      intro c
      induction c with
      | nil => intro la _; rfl
      | cons b c ih =>
        intro la hb
        cases la with
        | nil => rfl
        | cons y la =>
          show b * y + dotI c la = 0
          have h0 := hb 0
          rw [ih la fun j => hb (j + 1)]
          have : b = 0 := h0
          rw [this]; omega
    show a * x + dotI c la = a * x
    rw [z c la fun j => h (j + 1) (by omega)]; omega
  | a :: c, x :: la, l + 1, h, hl => by
    have h0 : a = 0 := h 0 (by omega)
    show a * x + dotI c la = c.getD l 0 * la.getD l 0
    rw [dot_one c la l (fun j hj => h (j + 1) (by omega)) (by simpa using hl), h0]; omega
theorem dot_abs {B L : Nat} : ∀ (c la : List Int), (∀ a ∈ c, a.natAbs ≤ B) → (∀ a ∈ la, a.natAbs ≤ L) → (dotI c la).natAbs ≤ c.length * (B * L)
  | [], la, _, _ => by show (0 : Int).natAbs ≤ _; simp
  | a :: c, [], _, _ => by show (0 : Int).natAbs ≤ _; simp
  | a :: c, x :: la, h1, h2 => by
    have ih := dot_abs c la (fun b hb => h1 b (List.mem_cons_of_mem _ hb)) (fun b hb => h2 b (List.mem_cons_of_mem _ hb))
    show (a * x + dotI c la).natAbs ≤ _
    have hm : (a * x).natAbs ≤ B * L := by
      rw [Int.natAbs_mul]
      exact Nat.mul_le_mul (h1 a List.mem_cons_self) (h2 x List.mem_cons_self)
    have := Int.natAbs_add_le (a * x) (dotI c la)
    rw [List.length_cons, Nat.add_mul, Nat.one_mul]
    omega
/-- what divides all multiples divides the multiple of the common part -/
theorem dvd_gcd (f s : Int) : ∀ r : List Int, (∀ a ∈ r, f ∣ s * a) → f ∣ s * (gcdL r : Nat)
  | [], _ => by
    show f ∣ s * ((0 : Nat) : Int)
    simp
  | a :: r, h => by
    have ih := dvd_gcd f s r fun b hb => h b (List.mem_cons_of_mem _ hb)
    have h1 := h a List.mem_cons_self
    have e : gcdL (a :: r) = Nat.gcd a.natAbs (gcdL r) := rfl
    rw [e]
    rw [← Int.natAbs_dvd_natAbs] at *
    rw [Int.natAbs_mul] at *
    rw [Int.natAbs_natCast] at *
    rw [← Nat.gcd_mul_left]
    exact Nat.dvd_gcd h1 ih
end W86
set_option linter.all false
set_option maxRecDepth 100000
set_option maxHeartbeats 1000000
/-! C10: the numbers of a table stay small. -/
namespace W86
open MP CC
theorem allN_perm {N : Nat} {s t : Tb} (hs : s.ti N) (ht : t.ti N) : (allN s.I s.O).Perm (allN t.I t.O) := by
  rw [List.perm_ext_iff_of_nodup (TI.ndA hs) (TI.ndA ht)]
  intro v
  have h1 := hs.mem v
  have h2 := ht.mem v
  unfold allN
  simp only [List.mem_append, List.mem_cons] at *
  constructor
  · rintro ((h | h) | (h | h))
    · rcases h2.mpr (h1.mp (.inl h)) with h | h
      · exact .inl (.inl h)
      · exact .inr (.inr h)
    · exact .inl (.inr h)
    · exact .inr (.inl h)
    · rcases h2.mpr (h1.mp (.inr h)) with h | h
      · exact .inl (.inl h)
      · exact .inr (.inr h)
  · rintro ((h | h) | (h | h))
    · rcases h1.mpr (h2.mp (.inl h)) with h | h
      · exact .inl (.inl h)
      · exact .inr (.inr h)
    · exact .inl (.inr h)
    · exact .inr (.inl h)
    · rcases h1.mpr (h2.mp (.inr h)) with h | h
      · exact .inl (.inl h)
      · exact .inr (.inr h)
theorem size {N M : Nat} {s t : Tb} (hs : s.ti N) (h : Kin N s t) (hM : 0 < M) (hb : ∀ r ∈ s.R, ∀ a ∈ r, a.natAbs ≤ M) : ∀ r ∈ t.R, ∀ a ∈ r, a.natAbs ≤ (s.R.length * (2 * M)) ^ s.R.length := by
  intro r hr
  obtain ⟨k, hk, hrk⟩ := List.mem_iff_getElem.mp hr
  have hrg : t.R.getD k [] = r := by simp [hk, hrk]
  have hk' : k < s.R.length := by rw [← h.lR]; exact hk
  have hsR := hs.hR
  have htR := h.ti.hR
  have htI : (t.I ++ [-1]).length = s.R.length := by simp; have := h.lI; omega
  generalize hm : s.R.length = m at *
  generalize hcs : (fun l w => cf s.R s.I s.O l w) = cs
  have hcf : ∀ l, l < m → ∀ w, (cs l w).natAbs ≤ 2 * M := by
    intro l hl w
    have hr' : s.R.getD l [] ∈ s.R := hs.getR (by omega)
    have b1 : ∀ j, ((s.R.getD l []).getD j 0).natAbs ≤ M := by
      intro j
      by_cases hz : (s.R.getD l []).getD j 0 = 0
      · rw [hz]; simp
      · exact hb _ hr' _ (getD_mem hz)
    rw [← hcs]
    show (cf s.R s.I s.O l w).natAbs ≤ 2 * M
    unfold cf
    have h1 := b1 0
    have h2 := b1 ((-2 :: s.O).idxOf w + 1)
    split <;> omega
  let eqw : Int → List Int := fun w => (List.range m).map fun l => cs l w
  have hE1 : (((List.range m).filter (fun i => decide (i ≠ k))).map fun i => eqw ((t.I ++ [-1]).getD i 0)).length < m := by
    rw [List.length_map]
    have := List.length_filter_lt_length_iff_exists (l := List.range m) (p := fun i => decide (i ≠ k))
    rw [List.length_range] at this
    exact this.mpr ⟨k, List.mem_range.mpr hk', by simp⟩
  obtain ⟨la, l1, ⟨x, hx, hx0⟩, l3, l4⟩ := siegel (M := 2 * M) (n := m) (by omega) _ hE1 (by
    intro c hc
    obtain ⟨i, hi, rfl⟩ := List.mem_map.mp hc
    refine ⟨by simp [eqw], fun a ha => ?_⟩
    obtain ⟨l, hl, rfl⟩ := List.mem_map.mp ha
    exact hcf l (List.mem_range.mp hl) _)
  let sg : Int → Int := fun w => dotI (eqw w) la
  have hsI : ∀ i, i < m → i ≠ k → sg ((t.I ++ [-1]).getD i 0) = 0 := by
    intro i hi hik
    exact l4 _ (List.mem_map.mpr ⟨i, by rw [List.mem_filter]; exact ⟨List.mem_range.mpr hi, decide_eq_true hik⟩, rfl⟩)
  have hbnd : ∀ w, (sg w).natAbs ≤ (m * (2 * M)) ^ m := by
    intro w
    have h1 := dot_abs (B := 2 * M) (L := (m * (2 * M)) ^ (m - 1)) (eqw w) la (by
      intro a ha
      obtain ⟨l, hl, rfl⟩ := List.mem_map.mp ha
      exact hcf l (List.mem_range.mp hl) _) (by
      intro a ha
      refine Nat.le_trans (l3 a ha) (Nat.pow_le_pow_right ?_ (by omega))
      exact Nat.mul_pos (by omega) (by omega))
    have h2 : (eqw w).length = m := by simp [eqw]
    rw [h2, ← Nat.mul_assoc] at h1
    have h3 : (m * (2 * M)) ^ m = m * (2 * M) * (m * (2 * M)) ^ (m - 1) := by
      have : m = (m - 1) + 1 := by omega
      conv => lhs; rw [this, Nat.pow_succ, Nat.mul_comm]
      rw [← this]
    rw [h3]; exact h1
  -- the equations at the solutions
  have hsum : ∀ u, Sat s.R s.I s.O u → sumL (allN t.I t.O) (fun w => ((sg w : Int) : Rat) * u w) = 0 := by
    intro u hu
    rw [← sumL_perm _ (allN_perm hs h.ti)]
    refine swapS cs u _ (List.range m) la fun l hl => ?_
    rw [← hcs]
    exact hs.eqn (by rw [hm]; exact List.mem_range.mp hl) hu
  have hvm : (t.I ++ [-1]).getD k 0 ∈ t.I ++ [-1] := getD_memW (by omega)
  have hvidx : (t.I ++ [-1]).idxOf ((t.I ++ [-1]).getD k 0) = k := idx_of_getD h.ti.ndI (by omega)
  have hkey : ∀ w ∈ -2 :: t.O, r.getD 0 0 * sg w = -(sg ((t.I ++ [-1]).getD k 0) * r.getD ((-2 :: t.O).idxOf w + 1) 0) := by
    intro w hw
    obtain ⟨u, u1, u2, u3, u4⟩ := (TI.ok h.ti h.sat).col w (by
      rcases List.mem_cons.mp hw with h | h
      · exact .inl h
      · exact .inr h)
    have hs1 := hsum u u1
    have uO : ∀ w' ∈ -2 :: t.O, u w' = if w' = w then 1 else 0 := by
      intro w' hw'
      rcases List.mem_cons.mp hw' with rfl | hw'
      · rw [u2]
        by_cases e : w = -2
        · rw [if_pos e, if_pos e.symm]
        · rw [if_neg e, if_neg (fun z => e z.symm)]
      · exact u3 w' hw'
    have uv : u ((t.I ++ [-1]).getD k 0) = rg r ((-2 :: t.O).idxOf w + 1) / rg r 0 := by
      have h1 : u ((t.I ++ [-1]).getD k 0) = (sOf t.R t.I t.O).al ((t.I ++ [-1]).getD k 0) w := by
        refine u4 _ ?_
        rcases List.mem_append.mp hvm with h' | h'
        · exact .inr ⟨mem_nm.mpr ((h.ti.mem _).mp (List.mem_append_left _ h')), h.ti.innI h'⟩
        · exact .inl (by simpa using h')
      rw [h1]
      show rg (t.R.getD ((t.I ++ [-1]).idxOf _) []) _ / _ = _
      rw [hvidx, hrg]
    unfold allN at hs1
    rw [sumL_app, sumL_one (v := (t.I ++ [-1]).getD k 0) _ h.ti.ndI hvm, sumL_one (v := w) _ h.ti.ndO hw, uO w hw, if_pos rfl, uv] at hs1
    · have hp : 0 < rg r 0 := by rw [← hrg]; exact h.ti.posk hk
      have e1 := rat_div_mul (a := rg r ((-2 :: t.O).idxOf w + 1)) hp
      have e2 : rg r 0 * ((sg w : Int) : Rat) = -(((sg ((t.I ++ [-1]).getD k 0) : Int) : Rat) * rg r ((-2 :: t.O).idxOf w + 1)) := by
        generalize rg r ((-2 :: t.O).idxOf w + 1) / rg r 0 = q at *
        generalize rg r ((-2 :: t.O).idxOf w + 1) = a at *
        generalize rg r 0 = f at *
        grind
      unfold rg at e2
      rw [← Rat.intCast_mul, ← Rat.intCast_mul, ← Rat.intCast_neg] at e2
      exact Rat.intCast_inj.mp e2
    · intro w' hw' hne
      rw [uO w' hw', if_neg hne]; grind
    · intro w' hw' hne
      obtain ⟨i1, i2⟩ := getD_of_mem hw'
      have : sg w' = 0 := by
        rw [← i2]
        refine hsI _ (by omega) fun z => hne ?_
        rw [← i2, z]
      rw [this]
      have z : (((0 : Int) : Rat)) = 0 := rfl
      rw [z]; grind
  -- not all are 0
  have hsv : sg ((t.I ++ [-1]).getD k 0) ≠ 0 := by
    intro hz
    have hall : ∀ w ∈ allN t.I t.O, sg w = 0 := by
      intro w hw
      unfold allN at hw
      rcases List.mem_append.mp hw with hw | hw
      · obtain ⟨i1, i2⟩ := getD_of_mem hw
        by_cases e : (t.I ++ [-1]).idxOf w = k
        · rw [← i2, e]; exact hz
        · rw [← i2]; exact hsI _ (by omega) e
      · have := hkey w hw
        rw [hz] at this
        have hp : 0 < r.getD 0 0 := h.ti.pos r hr
        have h0 : r.getD 0 0 * sg w = 0 := by rw [this]; omega
        rcases Int.mul_eq_zero.mp h0 with z | z
        · omega
        · exact z
    obtain ⟨l, hl, hlx⟩ := List.mem_iff_getElem.mp hx
    have hlm : l < m := by omega
    have hnm : (s.I ++ [-1]).getD l 0 ∈ s.I ++ [-1] := getD_memW (by simp; omega)
    have hmem : (s.I ++ [-1]).getD l 0 ∈ allN t.I t.O := by
      rw [← (allN_perm hs h.ti).mem_iff]
      exact List.mem_append_left _ hnm
    have h0 := hall _ hmem
    have hone : sg ((s.I ++ [-1]).getD l 0) = (eqw ((s.I ++ [-1]).getD l 0)).getD l 0 * la.getD l 0 := by
      refine dot_one _ _ l (fun j hj => ?_) (by simp [eqw, l1])
      show ((List.range m).map fun l' => cs l' ((s.I ++ [-1]).getD l 0)).getD j 0 = 0
      rw [getD_range]
      split
      · rename_i hjm
        rw [← hcs]
        show cf s.R s.I s.O j _ = 0
        rw [hs.cfI (by omega) hnm, if_neg]
        intro z
        have e1 := idx_of_getD hs.ndI (k := j) (by simp; omega)
        have e2 := idx_of_getD hs.ndI (k := l) (by simp; omega)
        rw [z, e2] at e1
        exact hj e1.symm
      · rfl
    have hone2 : (eqw ((s.I ++ [-1]).getD l 0)).getD l 0 = (s.R.getD l []).getD 0 0 := by
      show ((List.range m).map fun l' => cs l' ((s.I ++ [-1]).getD l 0)).getD l 0 = _
      rw [getD_range, if_pos hlm, ← hcs]
      show cf s.R s.I s.O l _ = _
      rw [hs.cfI (by omega) hnm, if_pos rfl]
    rw [hone, hone2] at h0
    have hp : 0 < (s.R.getD l []).getD 0 0 := hs.pos _ (hs.getR (by omega))
    have hla : la.getD l 0 = x := by simp [hl, hlx]
    rw [hla] at h0
    rcases Int.mul_eq_zero.mp h0 with z | z
    · omega
    · exact hx0 z
  -- so the row's numbers are at most these
  have hp : 0 < r.getD 0 0 := h.ti.pos r hr
  have hlen : r.length = t.O.length + 2 := h.ti.row r hr
  have hdv : r.getD 0 0 ∣ sg ((t.I ++ [-1]).getD k 0) := by
    have := dvd_gcd (r.getD 0 0) (sg ((t.I ++ [-1]).getD k 0)) r (by
      intro a ha
      obtain ⟨j, hj, rfl⟩ := List.mem_iff_getElem.mp ha
      cases j with
      | zero =>
        have : r.getD 0 0 = r[0] := by simp [hj]
        rw [this]; exact Int.dvd_mul_left _ _
      | succ j =>
        have hw : (-2 :: t.O).getD j 0 ∈ -2 :: t.O := getD_memW (by simp; omega)
        have hk2 := hkey _ hw
        rw [idx_of_getD h.ti.ndO (by simp; omega)] at hk2
        have : r.getD (j + 1) 0 = r[j + 1] := by simp [hj]
        rw [this] at hk2
        have e : sg ((t.I ++ [-1]).getD k 0) * r[j + 1] = r.getD 0 0 * -(sg ((-2 :: t.O).getD j 0)) := by
          rw [Int.mul_neg, hk2]; omega
        rw [e]; exact Int.dvd_mul_right _ _)
    rw [h.ti.prim r hr] at this
    simpa using this
  obtain ⟨c, hc⟩ := hdv
  have hc0 : c ≠ 0 := by
    rintro rfl
    rw [Int.mul_zero] at hc
    exact hsv hc
  have hc1 : 1 ≤ c.natAbs := by omega
  intro a ha
  obtain ⟨j, hj, rfl⟩ := List.mem_iff_getElem.mp ha
  cases j with
  | zero =>
    have e : r.getD 0 0 = r[0] := by simp [hj]
    have := hbnd ((t.I ++ [-1]).getD k 0)
    rw [hc, e, Int.natAbs_mul] at this
    have h2 : r[0].natAbs * 1 ≤ r[0].natAbs * c.natAbs := Nat.mul_le_mul_left _ hc1
    omega
  | succ j =>
    have hw : (-2 :: t.O).getD j 0 ∈ -2 :: t.O := getD_memW (by simp; omega)
    have hk2 := hkey _ hw
    rw [idx_of_getD h.ti.ndO (by simp; omega), hc] at hk2
    have e : r.getD (j + 1) 0 = r[j + 1] := by simp [hj]
    rw [e, Int.mul_assoc, ← Int.mul_neg] at hk2
    have h3 := Int.eq_of_mul_eq_mul_left (by omega) hk2
    have h4 := hbnd ((-2 :: t.O).getD j 0)
    rw [h3, Int.natAbs_neg, Int.natAbs_mul] at h4
    have h2 : 1 * r[j + 1].natAbs ≤ c.natAbs * r[j + 1].natAbs := Nat.mul_le_mul_right _ hc1
    omega
end W86
set_option linter.all false
set_option maxRecDepth 100000
set_option maxHeartbeats 1000000
/-! C11: the first table. -/
namespace W86
open MP CC
theorem dotR_sm : ∀ (l xs : List Rat), l.length = xs.length → dotR l xs = sm l.length (fun j => l.getD j 0 * xs.getD j 0)
  | [], [], _ => rfl
  | [], _ :: _, h => by cases h
  | _ :: _, [], h => by cases h
  | a :: l, x :: xs, h => by
    rw [List.length_cons, sm_front, dotR_cons, dotR_sm l xs (by simpa using h)]
    rfl
theorem lrat (L : Nat) (q : Rat) (h : q.den ∣ L) : (((q.num * ((L / q.den : Nat) : Int)) : Int) : Rat) = (L : Rat) * q := by
  obtain ⟨c, rfl⟩ := h
  have hd : 0 < q.den := q.den_pos
  rw [Nat.mul_div_cancel_left _ hd, Rat.intCast_mul]
  have e : (q.den : Rat) * q = (q.num : Rat) := by
    have h1 := Rat.num_divInt_den q
    rw [Rat.divInt_eq_div] at h1
    have hp : (0 : Rat) < (q.den : Rat) := Rat.natCast_pos.mpr hd
    have := rat_div_mul (a := (q.num : Rat)) hp
    have h2 : (((q.den : Nat) : Int) : Rat) = (q.den : Rat) := rfl
    rw [h2] at h1
    rw [h1] at this
    exact this
  have e2 : ((q.den * c : Nat) : Rat) = (q.den : Rat) * (c : Rat) := by simp
  rw [e2, ← e]
  have e3 : (((c : Nat) : Int) : Rat) = (c : Rat) := rfl
  rw [e3]; grind
theorem wrow_row (qs : List Rat) (y : Rat) (c : Nat → Rat) : rowE qs.length (wrow qs) y c ↔ y = sm qs.length (fun j => qs.getD j 0 * c j) := by
  have hL := lcmF_pos qs 1 (by decide)
  have h0 : rg (wrow qs) 0 = ((lcmF qs 1 : Nat) : Rat) := by
    rfl
  have hj : ∀ j, j < qs.length → rg (wrow qs) (j + 1) = ((lcmF qs 1 : Nat) : Rat) * qs.getD j 0 := by
    intro j hj
    have e : rg (wrow qs) (j + 1) = ((((qs.map fun q => q.num * ((lcmF qs 1 / q.den : Nat) : Int)).getD j 0 : Int)) : Rat) := rfl
    have e2 : (qs.map fun q => q.num * ((lcmF qs 1 / q.den : Nat) : Int)).getD j 0 = qs[j].num * ((lcmF qs 1 / qs[j].den : Nat) : Int) := by
      simp [hj]
    have e3 : qs.getD j 0 = qs[j] := by simp [hj]
    rw [e, e2, e3]
    exact lrat _ _ (lcmF_dvd qs 1 _ (List.getElem_mem hj))
  have hp : (0 : Rat) < ((lcmF qs 1 : Nat) : Rat) := by exact_mod_cast hL
  unfold rowE
  have e : sm qs.length (fun j => rg (wrow qs) (j + 1) * c j) = ((lcmF qs 1 : Nat) : Rat) * sm qs.length (fun j => qs.getD j 0 * c j) := by
    rw [← sm_mul]
    refine sm_congr _ fun j hj' => ?_
    rw [hj j hj']; grind
  rw [h0, e]
  generalize sm qs.length (fun j => qs.getD j 0 * c j) = s
  generalize ((lcmF qs 1 : Nat) : Rat) = L at *
  constructor
  · intro h
    have : L * (y - s) = 0 := by grind
    rcases Rat.mul_eq_zero.mp this with z | z <;> grind
  · intro h; rw [h]
theorem wrow_pos (qs : List Rat) : 0 < (wrow qs).getD 0 0 ∧ 0 < gcdL (wrow qs) := by
  have hL := lcmF_pos qs 1 (by decide)
  have h : 0 < (wrow qs).getD 0 0 := by
    show (0 : Int) < ((lcmF qs 1 : Nat) : Int)
    omega
  exact ⟨h, gcdL_pos (getD_mem (r := wrow qs) (j := 0) (by omega)) (by omega)⟩
theorem wrow_len (qs : List Rat) : (wrow qs).length = qs.length + 1 := by simp [wrow]
def row0 (r : Row) : List Int := mlow (wrow (-r.2 :: r.1))
def cost0 (cs : List Rat) : List Int := mlow (wrow (0 :: cs))
def inn0 (n m : Nat) : List Int := (List.range m).map fun k => ((n + k : Nat) : Int)
def tab0 (cs : List Rat) (rs : List Row) : Tb := ⟨rs.map row0 ++ [cost0 cs], inn0 cs.length rs.length, nm cs.length⟩
theorem inn0_mem {n m : Nat} {v : Int} : v ∈ inn0 n m ↔ (n : Int) ≤ v ∧ v < n + m := by
  unfold inn0
  rw [List.mem_map]
  constructor
  · rintro ⟨i, hi, rfl⟩
    have := List.mem_range.mp hi
    omega
  · rintro ⟨h1, h2⟩
    exact ⟨(v - n).toNat, List.mem_range.mpr (by omega), by omega⟩
theorem nd_map {f : Nat → Int} (hf : ∀ a b, f a = f b → a = b) : ∀ l : List Nat, l.Nodup → (l.map f).Nodup
  | [], _ => by simp
  | a :: l, h => by
    rw [List.map_cons, List.nodup_cons]
    have h' := List.nodup_cons.mp h
    refine ⟨fun hm => ?_, nd_map hf l h'.2⟩
    obtain ⟨b, hb, e⟩ := List.mem_map.mp hm
    exact h'.1 (by rw [← hf b a e]; exact hb)
section
variable {cs : List Rat} {rs : List Row}
theorem ti0 (hw : ∀ r ∈ rs, r.1.length = cs.length) : (tab0 cs rs).ti (cs.length + rs.length) := by
  have hrow : ∀ r ∈ rs.map row0 ++ [cost0 cs], ∃ qs : List Rat, qs.length = cs.length + 1 ∧ r = mlow (wrow qs) := by
    intro r hr
    rcases List.mem_append.mp hr with h | h
    · obtain ⟨q, hq, rfl⟩ := List.mem_map.mp h
      exact ⟨_, by simp [hw q hq], rfl⟩
    · have : r = cost0 cs := by simpa using h
      rw [this]
      exact ⟨_, by simp, rfl⟩
  refine ⟨by simp [tab0, inn0], fun r hr => ?_, fun r hr => ?_, fun r hr => ?_, ?_, fun v => ?_⟩
  · obtain ⟨qs, h1, rfl⟩ := hrow r hr
    rw [mlow_len, wrow_len, h1]
    simp [tab0, nm]
  · obtain ⟨qs, h1, rfl⟩ := hrow r hr
    exact low_pos (wrow_pos qs).1 (by rw [wrow_len]; omega)
  · obtain ⟨qs, h1, rfl⟩ := hrow r hr
    exact gcd_mlow (wrow_pos qs).2
  · show (inn0 cs.length rs.length ++ nm cs.length).Nodup
    rw [List.nodup_append]
    refine ⟨nd_map (fun a b h => by omega) _ List.nodup_range, nd_map (fun a b h => by omega) _ List.nodup_range, fun a ha b hb e => ?_⟩
    have h1 := inn0_mem.mp ha
    have h2 := mem_nm.mp hb
    omega
  · show v ∈ inn0 cs.length rs.length ++ nm cs.length ↔ _
    rw [List.mem_append, inn0_mem, mem_nm]
    omega
/-- the values of the variables -/
def xv (n : Nat) (x : Int → Rat) : List Rat := (List.range n).map fun (j : Nat) => x (j : Int)
theorem xv_len (n : Nat) (x : Int → Rat) : (xv n x).length = n := by simp [xv]
theorem xv_getD {n : Nat} {x : Int → Rat} {j : Nat} (h : j < n) : (xv n x).getD j 0 = x (j : Int) := by simp [xv, h]
theorem row_xv (q : Rat) (l : List Rat) (y : Rat) (x : Int → Rat) : rowE (l.length + 1) (mlow (wrow (q :: l))) y (fun j => x ((-2 :: nm l.length).getD j 0)) ↔ y = q * x (-2) + dotR l (xv l.length x) := by
  rw [mlow_row (wrow_pos _).2]
  have := wrow_row (q :: l) y (fun j => x ((-2 :: nm l.length).getD j 0))
  rw [List.length_cons] at this
  rw [this, sm_front, dotR_sm _ _ (xv_len _ _).symm]
  have e : sm l.length (fun j => (q :: l).getD (j + 1) 0 * x ((-2 :: nm l.length).getD (j + 1) 0)) = sm l.length (fun j => l.getD j 0 * (xv l.length x).getD j 0) := by
    refine sm_congr _ fun j hj => ?_
    rw [xv_getD hj]
    show l.getD j 0 * x ((nm l.length).getD j 0) = _
    have : (nm l.length).getD j 0 = (j : Int) := by simp [nm, hj]
    rw [this]
  rw [e]
  rfl
theorem sat0 (hw : ∀ r ∈ rs, r.1.length = cs.length) (x : Int → Rat) : (tab0 cs rs).sat x ↔ (∀ k (h : k < rs.length), x ((cs.length + k : Nat) : Int) = -(rs[k].2) * x (-2) + dotR rs[k].1 (xv cs.length x)) ∧ x (-1) = dotR cs (xv cs.length x) := by
  have hlen : (tab0 cs rs).R.length = rs.length + 1 := by simp [tab0]
  have hO : (tab0 cs rs).O = nm cs.length := rfl
  have hOl : (nm cs.length).length = cs.length := by simp [nm]
  have hrow : ∀ k (h : k < rs.length), rowE ((tab0 cs rs).O.length + 1) ((tab0 cs rs).R.getD k []) (x (((tab0 cs rs).I ++ [-1]).getD k 0)) (fun j => x ((-2 :: (tab0 cs rs).O).getD j 0)) ↔ x ((cs.length + k : Nat) : Int) = -(rs[k].2) * x (-2) + dotR rs[k].1 (xv cs.length x) := by
    intro k h
    have e1 : (tab0 cs rs).R.getD k [] = mlow (wrow (-rs[k].2 :: rs[k].1)) := by
      show (rs.map row0 ++ [cost0 cs]).getD k [] = _
      rw [List.getD_eq_getElem?_getD, List.getElem?_append_left (by simpa using h), List.getElem?_map, List.getElem?_eq_getElem h]
      rfl
    have e2 : ((tab0 cs rs).I ++ [-1]).getD k 0 = ((cs.length + k : Nat) : Int) := by
      show (inn0 cs.length rs.length ++ [-1]).getD k 0 = _
      rw [List.getD_eq_getElem?_getD, List.getElem?_append_left (by simpa [inn0] using h)]
      simp [inn0, h]
    rw [e1, e2, hO, hOl]
    have := row_xv (-rs[k].2) rs[k].1 (x ((cs.length + k : Nat) : Int)) x
    rw [hw _ (List.getElem_mem h)] at this
    exact this
  have hcost : rowE ((tab0 cs rs).O.length + 1) ((tab0 cs rs).R.getD rs.length []) (x (((tab0 cs rs).I ++ [-1]).getD rs.length 0)) (fun j => x ((-2 :: (tab0 cs rs).O).getD j 0)) ↔ x (-1) = dotR cs (xv cs.length x) := by
    have e1 : (tab0 cs rs).R.getD rs.length [] = mlow (wrow (0 :: cs)) := by
      show (rs.map row0 ++ [cost0 cs]).getD rs.length [] = _
      simp [cost0]
    have e2 : ((tab0 cs rs).I ++ [-1]).getD rs.length 0 = -1 := by
      show (inn0 cs.length rs.length ++ [-1]).getD rs.length 0 = _
      simp [inn0]
    rw [e1, e2, hO, hOl, row_xv 0 cs (x (-1)) x]
    have : (0 : Rat) * x (-2) + dotR cs (xv cs.length x) = dotR cs (xv cs.length x) := by grind
    rw [this]
  constructor
  · intro h
    exact ⟨fun k hk => (hrow k hk).mp (h k (by omega)), hcost.mp (h rs.length (by omega))⟩
  · rintro ⟨h1, h2⟩ k hk
    by_cases e : k = rs.length
    · rw [e]; exact hcost.mpr h2
    · exact (hrow k (by omega)).mpr (h1 k (by omega))
/-- the solution of given values -/
def sol (cs : List Rat) (rs : List Row) (t : Rat) (xs : List Rat) : Int → Rat := fun v => if v = -2 then t else if v = -1 then dotR cs xs else if v < cs.length then xs.getD v.toNat 0 else -((rs.getD (v.toNat - cs.length) ([], 0)).2) * t + dotR (rs.getD (v.toNat - cs.length) ([], 0)).1 xs
theorem sol_sat (hw : ∀ r ∈ rs, r.1.length = cs.length) (t : Rat) {xs : List Rat} (hx : xs.length = cs.length) : (tab0 cs rs).sat (sol cs rs t xs) := by
  have hxv : xv cs.length (sol cs rs t xs) = xs := by
    refine List.ext_getElem (by rw [xv_len, hx]) fun j h1 h2 => ?_
    have hj : j < cs.length := by rw [xv_len] at h1; exact h1
    have e : (xv cs.length (sol cs rs t xs))[j] = sol cs rs t xs (j : Int) := by simp [xv]
    rw [e]
    unfold sol
    rw [if_neg (by omega), if_neg (by omega), if_pos (by omega)]
    simp [h2]
  rw [sat0 hw, hxv]
  refine ⟨fun k hk => ?_, ?_⟩
  · have e1 : sol cs rs t xs (-2) = t := rfl
    rw [e1]
    unfold sol
    rw [if_neg (by omega), if_neg (by omega), if_neg (by omega)]
    have e2 : ((cs.length + k : Nat) : Int).toNat - cs.length = k := by omega
    have e3 : rs.getD k ([], 0) = rs[k] := by simp [hk]
    rw [e2, e3]
  · unfold sol
    rw [if_neg (by omega), if_pos rfl]
end
end W86
set_option linter.all false
set_option maxRecDepth 100000
set_option maxHeartbeats 1000000
/-! C12: what the last table tells proves itself. -/
namespace W86
open MP CC
def ptQ (t : Tb) (n : Nat) : List Rat := (List.range n).map fun (j : Nat) => (sOf t.R t.I t.O).al (j : Int) (-2)
def prQ (t : Tb) (n m : Nat) : List Rat := (List.range m).map fun (k : Nat) => (sOf t.R t.I t.O).al (-1) ((n + k : Nat) : Int)
def barQ (t : Tb) (k n m : Nat) : List Rat := (List.range m).map fun (i : Nat) => ((cf t.R t.I t.O k ((n + i : Nat) : Int) : Int) : Rat)
def dirQ (t : Tb) (c n : Nat) : List Rat := (List.range n).map fun (j : Nat) => if (j : Int) = t.O.getD c 0 then 1 else (sOf t.R t.I t.O).al (j : Int) (t.O.getD c 0)
def valQ (t : Tb) : Rat := rg (t.R.getD (t.R.length - 1) []) 1 / rg (t.R.getD (t.R.length - 1) []) 0
theorem nm_nd (N : Nat) : (nm N).Nodup := nd_map (fun a b h => by omega) _ List.nodup_range
theorem nm_add (n m : Nat) : nm (n + m) = nm n ++ inn0 n m := by
  unfold nm inn0
  rw [List.range_add, List.map_append, List.map_map]
  rfl
theorem sumL_map (g : Int → Rat) (f : Nat → Int) : ∀ m, sumL ((List.range m).map f) g = sm m (fun j => g (f j))
  | 0 => rfl
  | m + 1 => by
    rw [List.range_succ, List.map_append, sumL_app, sumL_map g f m]
    show sm m _ + (g (f m) + 0) = sm m _ + g (f m)
    grind
theorem dotR_range (f g : Nat → Rat) (m : Nat) : dotR ((List.range m).map f) ((List.range m).map g) = sm m (fun j => f j * g j) := by
  rw [dotR_sm _ _ (by simp)]
  rw [List.length_map, List.length_range]
  refine sm_congr m fun j hj => ?_
  simp [hj]
section
variable {cs : List Rat} {rs : List Row} {t : Tb}
/-- a sum over all names, at a solution -/
theorem sum_sol (F : Int → Rat) (tt : Rat) (xs : List Rat) (hx : xs.length = cs.length) : sumL (nm (cs.length + rs.length)) (fun w => F w * sol cs rs tt xs w) = dotR ((List.range cs.length).map fun (j : Nat) => F (j : Int)) xs + dotR ((List.range rs.length).map fun (k : Nat) => F ((cs.length + k : Nat) : Int)) (rs.map fun r => -r.2 * tt + dotR r.1 xs) := by
  rw [nm_add, sumL_app]
  congr 1
  · unfold nm
    rw [sumL_map]
    have e : xs = (List.range cs.length).map fun j => xs.getD j 0 := by
      refine List.ext_getElem (by simp [hx]) fun j h1 h2 => ?_
      simp [h1]
    conv => rhs; rw [e]
    rw [dotR_range]
    refine sm_congr _ fun j hj => ?_
    show F (j : Int) * sol cs rs tt xs (j : Int) = _
    unfold sol
    rw [if_neg (by omega), if_neg (by omega), if_pos (by omega)]
    rfl
  · unfold inn0
    rw [sumL_map]
    have e : (rs.map fun r => -r.2 * tt + dotR r.1 xs) = (List.range rs.length).map fun k => -(rs.getD k ([], 0)).2 * tt + dotR (rs.getD k ([], 0)).1 xs := by
      refine List.ext_getElem (by simp) fun j h1 h2 => ?_
      have : j < rs.length := by simpa using h1
      simp [this]
    rw [e, dotR_range]
    refine sm_congr _ fun k hk => ?_
    show F ((cs.length + k : Nat) : Int) * sol cs rs tt xs ((cs.length + k : Nat) : Int) = _
    unfold sol
    rw [if_neg (by omega), if_neg (by omega), if_neg (by omega)]
    have e2 : ((cs.length + k : Nat) : Int).toNat - cs.length = k := by omega
    rw [e2]
theorem sumL_all (h : Kin (cs.length + rs.length) (tab0 cs rs) t) (g : Int → Rat) (h0 : ∀ w ∈ t.I, g w = 0) : sumL t.O g = sumL (nm (cs.length + rs.length)) g := by
  have hp : (nm (cs.length + rs.length)).Perm (t.I ++ t.O) := by
    rw [List.perm_ext_iff_of_nodup (nm_nd _) h.ti.nd]
    intro v
    rw [mem_nm, h.ti.mem]
  rw [sumL_perm g hp, sumL_app, sumL_zero t.I h0]
  grind
theorem al_out {v w : Int} (h : w ∉ -2 :: t.O) (hr : ∀ r ∈ t.R, r.length = t.O.length + 2) : (sOf t.R t.I t.O).al v w = 0 := by
  show rg (t.R.getD ((t.I ++ [-1]).idxOf v) []) ((-2 :: t.O).idxOf w + 1) / _ = 0
  have h1 : (-2 :: t.O).idxOf w = (-2 :: t.O).length := List.idxOf_eq_length h
  have h2 : rg (t.R.getD ((t.I ++ [-1]).idxOf v) []) ((-2 :: t.O).idxOf w + 1) = 0 := by
    rw [h1]
    have h3 : (t.R.getD ((t.I ++ [-1]).idxOf v) []).length ≤ (-2 :: t.O).length + 1 := by
      by_cases hk : (t.I ++ [-1]).idxOf v < t.R.length
      · have : t.R.getD ((t.I ++ [-1]).idxOf v) [] = t.R[(t.I ++ [-1]).idxOf v] := by simp [hk]
        rw [this, hr _ (List.getElem_mem hk)]
        simp
      · have : t.R.getD ((t.I ++ [-1]).idxOf v) [] = [] := by
          rw [List.getD_eq_getElem?_getD, List.getElem?_eq_none (by omega)]; rfl
        rw [this]; simp
    unfold rg
    rw [getD_out h3]
    rfl
  rw [h2]
  grind
/-- unit vectors -/
def unit (n j : Nat) : List Rat := (List.range n).map fun i => if i = j then 1 else 0
theorem dot_unit {n j : Nat} (l : List Rat) (hl : l.length = n) (hj : j < n) : dotR l (unit n j) = l.getD j 0 := by
  have e : l = (List.range n).map fun i => l.getD i 0 := by
    refine List.ext_getElem (by simp [hl]) fun i h1 h2 => ?_
    simp [h1]
  conv => lhs; rw [e]
  unfold unit
  rw [dotR_range, sm_split _ j n hj, sm_zero n]
  · rw [if_pos rfl]; grind
  · intro i hi
    split
    · rfl
    · grind
/-- prices whose sums come with a rest -/
theorem pri_of (hw : ∀ r ∈ rs, r.1.length = cs.length) {ys fs : List Rat} (hy : ys.length = rs.length) (hf : fs.length = cs.length) (hf0 : ∀ q ∈ fs, 0 ≤ q) (hlg : ∀ q ∈ ys, Lg q) (hnn : ∀ q ∈ ys, 0 ≤ q)
    (h : ∀ xs : List Rat, xs.length = cs.length → dotR cs xs = dotR fs xs + dotR ys (rs.map fun r => dotR r.1 xs)) : Pri cs rs ys := by
  refine ⟨hy.symm, hlg, hnn, fun j hj hj' => ?_⟩
  have h1 := h (unit cs.length j) (by simp [unit])
  have h2 := dot_sums rs ys (List.replicate cs.length 0) (unit cs.length j) (fun r hr => by rw [List.length_replicate]; exact hw r hr)
  rw [dot_zeros] at h2
  rw [dot_unit cs rfl hj, dot_unit fs hf hj] at h1
  rw [dot_unit _ (by rw [sumsFrom_length, List.length_replicate]) hj] at h2
  have e1 : (sumsFrom (List.replicate cs.length 0) rs ys).getD j 0 = (sumsFrom (List.replicate cs.length 0) rs ys)[j] := by simp [hj']
  have e2 : cs.getD j 0 = cs[j] := by simp [hj]
  have e3 : fs.getD j 0 = fs[j]'(by omega) := by simp [show j < fs.length by omega]
  have h3 := hf0 _ (List.getElem_mem (show j < fs.length by omega))
  rw [e1] at h2
  rw [e2, e3] at h1
  rw [h2]
  grind
theorem dot_zero_r : ∀ (l : List Rat) (n : Nat), dotR l (List.replicate n 0) = 0
  | l, n => by rw [dotR_comm]; exact dot_zeros n l
theorem dot_neg : ∀ (ys bs : List Rat), dotR ys (bs.map fun b => -b) = -dotR ys bs
  | [], bs => by rw [dotR_nil', dotR_nil']; grind
  | y :: ys, [] => by rw [List.map_nil, dotR_nil]; grind
  | y :: ys, b :: bs => by
    rw [List.map_cons, dotR_cons, dotR_cons, dot_neg ys bs]; grind
theorem xs0 (rs : List Row) (n : Nat) : (rs.map fun r => -r.2 * (1 : Rat) + dotR r.1 (List.replicate n 0)) = (bnds rs).map fun b => -b := by
  unfold bnds
  rw [List.map_map]
  refine List.map_congr_left fun r _ => ?_
  show -r.2 * 1 + dotR r.1 (List.replicate n 0) = -r.2
  rw [dot_zero_r]; grind
theorem xs1 (rs : List Row) (xs : List Rat) : (rs.map fun r => -r.2 * (0 : Rat) + dotR r.1 xs) = rs.map fun r => dotR r.1 xs := by
  refine List.map_congr_left fun r _ => ?_
  grind
/-- the objective row -/
theorem obj_row (hw : ∀ r ∈ rs, r.1.length = cs.length) (h : Kin (cs.length + rs.length) (tab0 cs rs) t) (tt : Rat) (xs : List Rat) (hx : xs.length = cs.length) :
    dotR cs xs = valQ t * tt + (dotR ((List.range cs.length).map fun (j : Nat) => (sOf t.R t.I t.O).al (-1) (j : Int)) xs + dotR (prQ t cs.length rs.length) (rs.map fun r => -r.2 * tt + dotR r.1 xs)) := by
  have ok := TI.ok h.ti h.sat
  have hs := sol_sat hw tt hx
  have hrow := ok.row _ hs (-1) (.inl rfl)
  have e1 : sol cs rs tt xs (-1) = dotR cs xs := rfl
  have e2 : sol cs rs tt xs (-2) = tt := rfl
  have e3 : (sOf t.R t.I t.O).al (-1) (-2) = valQ t := by
    show rg (t.R.getD ((t.I ++ [-1]).idxOf (-1)) []) ((-2 :: t.O).idxOf (-2) + 1) / _ = _
    have := h.ti.hR
    rw [h.ti.idxL, List.idxOf_cons_self, show t.I.length = t.R.length - 1 by omega]
    rfl
  have e4 : (sOf t.R t.I t.O).out = t.O := rfl
  rw [e1, e2, e3, e4, sumL_all h _ fun w hw => by
    rw [al_out _ h.ti.row]
    · grind
    · intro z
      exact h.ti.dis2 (List.mem_append_left _ hw) z] at hrow
  rw [hrow, sum_sol _ tt xs hx]
  rfl
theorem alz_nn (h : Kin (cs.length + rs.length) (tab0 cs rs) t) (hd : wrongL t.R t.I t.O = []) (v : Int) (hv : 0 ≤ v) : 0 ≤ (sOf t.R t.I t.O).al (-1) v := by
  by_cases hO : v ∈ t.O
  · have hn : v ∈ nm (cs.length + rs.length) := mem_nm.mpr ((h.ti.mem v).mp (List.mem_append_right _ hO))
    have f := fine_of h.ti hn (by rw [hd]; exact fun z => by cases z)
    unfold Fine at f
    rwa [if_neg (by rw [h.ti.innO hO]; decide)] at f
  · rw [al_out _ h.ti.row]
    · exact Rat.le_refl
    · intro z
      rcases List.mem_cons.mp z with rfl | z
      · omega
      · exact hO z
theorem al0_nn (h : Kin (cs.length + rs.length) (tab0 cs rs) t) (hd : wrongL t.R t.I t.O = []) (v : Int) (hv : v ∈ t.I) : 0 ≤ (sOf t.R t.I t.O).al v (-2) := by
  have hn : v ∈ nm (cs.length + rs.length) := mem_nm.mpr ((h.ti.mem v).mp (List.mem_append_left _ hv))
  have f := fine_of h.ti hn (by rw [hd]; exact fun z => by cases z)
  unfold Fine at f
  rwa [if_pos (h.ti.innI hv)] at f
theorem al_outI {v w : Int} (h : v ∉ t.I ++ [-1]) (hR : t.R.length = t.I.length + 1) : (sOf t.R t.I t.O).al v w = 0 := by
  show rg (t.R.getD ((t.I ++ [-1]).idxOf v) []) ((-2 :: t.O).idxOf w + 1) / _ = 0
  rw [List.idxOf_eq_length h]
  have : t.R.getD (t.I ++ [-1]).length [] = [] := by
    rw [List.getD_eq_getElem?_getD, List.getElem?_eq_none (by simp; omega)]; rfl
  rw [this]
  have e : rg [] ((-2 :: t.O).idxOf w + 1) = 0 := rfl
  rw [e]
  grind
/-- a solution of the last table, of its columns' values -/
theorem col_sol (hw : ∀ r ∈ rs, r.1.length = cs.length) (h : Kin (cs.length + rs.length) (tab0 cs rs) t) {w : Int} (hwO : w = -2 ∨ w ∈ t.O) : ∃ u : Int → Rat, (∀ k (h : k < rs.length), u ((cs.length + k : Nat) : Int) = -(rs[k].2) * u (-2) + dotR rs[k].1 (xv cs.length u)) ∧ u (-1) = dotR cs (xv cs.length u) ∧ u (-2) = (if w = -2 then 1 else 0) ∧
    (∀ w' ∈ t.O, u w' = if w' = w then 1 else 0) ∧ (∀ v ∈ t.I, u v = (sOf t.R t.I t.O).al v w) ∧ u (-1) = (sOf t.R t.I t.O).al (-1) w := by
  obtain ⟨u, u1, u2, u3, u4⟩ := (TI.ok h.ti h.sat).col w hwO
  have hs := (sat0 hw u).mp u1
  exact ⟨u, hs.1, hs.2, u2, u3, fun v hv => u4 v (.inr ⟨mem_nm.mpr ((h.ti.mem v).mp (List.mem_append_left _ hv)), h.ti.innI hv⟩), u4 (-1) (.inl rfl)⟩
theorem pt_sol (h : Kin (cs.length + rs.length) (tab0 cs rs) t) {u : Int → Rat} (hO : ∀ w' ∈ t.O, u w' = if w' = -2 then 1 else 0) (hI : ∀ v ∈ t.I, u v = (sOf t.R t.I t.O).al v (-2)) : xv cs.length u = ptQ t cs.length := by
  unfold xv ptQ
  refine List.map_congr_left fun j hj => ?_
  have hj' := List.mem_range.mp hj
  have hm := (h.ti.mem (j : Int)).mpr ⟨by omega, by omega⟩
  rcases List.mem_append.mp hm with hm | hm
  · exact hI _ hm
  · rw [hO _ hm, if_neg (by omega), al_outI _ h.ti.hR]
    intro z
    exact h.ti.dis2 z (List.mem_cons_of_mem _ hm)
/-- a table whose values are right gives entries -/
theorem point_ok (hw : ∀ r ∈ rs, r.1.length = cs.length) (h : Kin (cs.length + rs.length) (tab0 cs rs) t) (hd : wrongL t.R t.I t.O = []) (hlg : ∀ q ∈ ptQ t cs.length, Lg q) : Ent false rs cs.length (ptQ t cs.length) ∧ dotR cs (ptQ t cs.length) = valQ t := by
  obtain ⟨u, u1, u2, u3, u4, u5, u6⟩ := col_sol hw h (w := -2) (.inl rfl)
  have hx := pt_sol h u4 u5
  rw [hx] at u1 u2
  rw [if_pos rfl] at u3
  have hnn : ∀ v : Int, 0 ≤ v → v < cs.length + rs.length → 0 ≤ u v := by
    intro v h1 h2
    have hm := (h.ti.mem v).mpr ⟨h1, h2⟩
    rcases List.mem_append.mp hm with hm | hm
    · rw [u5 v hm]; exact al0_nn h hd v hm
    · rw [u4 v hm, if_neg (by omega)]; exact Rat.le_refl
  refine ⟨⟨by simp [ptQ], hlg, fun q hq => ?_, fun r hr => ?_⟩, ?_⟩
  · rw [← hx] at hq
    obtain ⟨j, hj, rfl⟩ := List.mem_map.mp hq
    have := List.mem_range.mp hj
    exact hnn _ (by omega) (by omega)
  · obtain ⟨k, hk, rfl⟩ := List.mem_iff_getElem.mp hr
    have h1 := u1 k hk
    have h2 := hnn ((cs.length + k : Nat) : Int) (by omega) (by omega)
    rw [u3] at h1
    show rs[k].2 ≤ _
    grind
  · rw [← u2, u6]
    show rg (t.R.getD ((t.I ++ [-1]).idxOf (-1)) []) ((-2 :: t.O).idxOf (-2) + 1) / _ = _
    have := h.ti.hR
    rw [h.ti.idxL, List.idxOf_cons_self, show t.I.length = t.R.length - 1 by omega]
    rfl
theorem prices_ok (hw : ∀ r ∈ rs, r.1.length = cs.length) (h : Kin (cs.length + rs.length) (tab0 cs rs) t) (hd : wrongL t.R t.I t.O = []) (hlg : ∀ q ∈ prQ t cs.length rs.length, Lg q) : Pri cs rs (prQ t cs.length rs.length) ∧ dotR (prQ t cs.length rs.length) (bnds rs) = valQ t := by
  refine ⟨pri_of hw (fs := (List.range cs.length).map fun (j : Nat) => (sOf t.R t.I t.O).al (-1) (j : Int)) (by simp [prQ]) (by simp) (fun q hq => ?_) hlg (fun q hq => ?_) fun xs hx => ?_, ?_⟩
  · obtain ⟨j, hj, rfl⟩ := List.mem_map.mp hq
    exact alz_nn h hd _ (by omega)
  · obtain ⟨j, hj, rfl⟩ := List.mem_map.mp hq
    exact alz_nn h hd _ (by omega)
  · have := obj_row hw h 0 xs hx
    rw [xs1] at this
    rw [this]; grind
  · have := obj_row hw h 1 (List.replicate cs.length 0) (by simp)
    rw [xs0, dot_zero_r, dot_zero_r, dot_neg] at this
    grind
end
end W86
set_option linter.all false
set_option maxRecDepth 100000
set_option maxHeartbeats 1000000
/-! C13: bars and rays. -/
namespace W86
open MP CC
section
variable {cs : List Rat} {rs : List Row} {t : Tb}
theorem rg_le {r : List Int} {j : Nat} (h : r.getD j 0 ≤ 0) : rg r j ≤ 0 := by
  refine Rat.not_lt.mp fun z => ?_
  have := rg_sign.2.mp z
  omega
theorem rg_ge {r : List Int} {j : Nat} (h : 0 ≤ r.getD j 0) : 0 ≤ rg r j := by
  refine Rat.not_lt.mp fun z => ?_
  have := rg_sign.1.mp z
  omega
/-- the numbers of a row without a partner -/
theorem cf_nn (h : Kin (cs.length + rs.length) (tab0 cs rs) t) {k : Nat} (hk : k < t.I.length) (hr : ∀ c, c < t.O.length → (t.R.getD k []).getD (c + 2) 0 ≤ 0) (v : Int) (h0 : 0 ≤ v) (hN : v < cs.length + rs.length) : 0 ≤ cf t.R t.I t.O k v := by
  have hR := h.ti.hR
  have hm := (h.ti.mem v).mpr ⟨h0, hN⟩
  rcases List.mem_append.mp hm with hm | hm
  · rw [h.ti.cfI (by omega) (List.mem_append_left _ hm)]
    have := h.ti.pos _ (h.ti.getR (k := k) (by omega))
    split <;> omega
  · rw [h.ti.cfO (by omega) (List.mem_cons_of_mem _ hm)]
    obtain ⟨c1, c2⟩ := getD_of_mem hm
    have := h.ti.idxO c1
    rw [c2] at this
    rw [this]
    have := hr _ c1
    show 0 ≤ -((t.R.getD k []).getD (t.O.idxOf v + 2) 0)
    omega
/-- a row's equation over all names -/
theorem cf_row (hw : ∀ r ∈ rs, r.1.length = cs.length) (h : Kin (cs.length + rs.length) (tab0 cs rs) t) {k : Nat} (hk : k < t.I.length) (tt : Rat) (xs : List Rat) (hx : xs.length = cs.length) :
    rg (t.R.getD k []) 1 * tt = dotR ((List.range cs.length).map fun (j : Nat) => ((cf t.R t.I t.O k (j : Int) : Int) : Rat)) xs + dotR (barQ t k cs.length rs.length) (rs.map fun r => -r.2 * tt + dotR r.1 xs) := by
  have hR := h.ti.hR
  have hs := sol_sat hw tt hx
  have he := h.ti.eqn (l := k) (by omega) ((h.sat _).mp hs)
  have hp : (allN t.I t.O).Perm (-1 :: -2 :: nm (cs.length + rs.length)) := by
    rw [List.perm_ext_iff_of_nodup h.ti.ndA]
    · intro v
      have h2 := h.ti.mem v
      rw [List.mem_append] at h2
      unfold allN
      simp only [List.mem_append, List.mem_cons, mem_nm]
      constructor
      · rintro ((a | a) | (a | a))
        · exact .inr (.inr (h2.mp (.inl a)))
        · rcases a with a | a
          · exact .inl a
          · cases a
        · exact .inr (.inl a)
        · exact .inr (.inr (h2.mp (.inr a)))
      · rintro (a | a | a)
        · exact .inl (.inr (.inl a))
        · exact .inr (.inl a)
        · rcases h2.mpr a with a | a
          · exact .inl (.inl a)
          · exact .inr (.inr a)
    · rw [List.nodup_cons, List.nodup_cons]
      refine ⟨fun z => ?_, fun z => ?_, nm_nd _⟩
      · rcases List.mem_cons.mp z with z | z
        · omega
        · have := mem_nm.mp z; omega
      · have := mem_nm.mp z; omega
  rw [sumL_perm _ hp] at he
  have he2 : ((cf t.R t.I t.O k (-1) : Int) : Rat) * sol cs rs tt xs (-1) + (((cf t.R t.I t.O k (-2) : Int) : Rat) * sol cs rs tt xs (-2) + sumL (nm (cs.length + rs.length)) (fun w => ((cf t.R t.I t.O k w : Int) : Rat) * sol cs rs tt xs w)) = 0 := he
  rw [sum_sol (fun w => ((cf t.R t.I t.O k w : Int) : Rat)) tt xs hx] at he2
  have e1 : cf t.R t.I t.O k (-1) = 0 := by
    rw [h.ti.cfI (by omega) (by simp), if_neg]
    intro z
    have e : (t.I ++ [-1]).getD k 0 = t.I.getD k 0 := by
      simp [List.getD_eq_getElem?_getD, List.getElem?_append_left hk]
    rw [e] at z
    have := h.ti.nonneg (.inl (getD_memW hk))
    omega
  have e2 : cf t.R t.I t.O k (-2) = -(t.R.getD k []).getD 1 0 := by
    rw [h.ti.cfO (by omega) List.mem_cons_self, List.idxOf_cons_self]
  have e3 : sol cs rs tt xs (-2) = tt := rfl
  rw [e1, e2, e3, Rat.intCast_neg] at he2
  have e0 : (((0 : Int) : Rat)) = 0 := rfl
  rw [e0] at he2
  show (((t.R.getD k []).getD 1 0 : Int) : Rat) * tt = _ + dotR ((List.range rs.length).map fun (i : Nat) => ((cf t.R t.I t.O k ((cs.length + i : Nat) : Int) : Int) : Rat)) _
  grind
theorem dot_zrs (n : Nat) (xs : List Rat) : dotR (zrs n) xs = 0 := dot_zeros n xs
theorem bar_ok (hw : ∀ r ∈ rs, r.1.length = cs.length) (h : Kin (cs.length + rs.length) (tab0 cs rs) t) {k : Nat} (hk : k < t.I.length) (hb : (t.R.getD k []).getD 1 0 < 0) (hr : ∀ c, c < t.O.length → (t.R.getD k []).getD (c + 2) 0 ≤ 0) (hlg : ∀ q ∈ barQ t k cs.length rs.length, Lg q) :
    Pri (zrs cs.length) rs (barQ t k cs.length rs.length) ∧ 0 < dotR (barQ t k cs.length rs.length) (bnds rs) := by
  have hz : (zrs cs.length).length = cs.length := List.length_replicate
  have nn : ∀ (v : Int), 0 ≤ v → v < cs.length + rs.length → (0 : Rat) ≤ ((cf t.R t.I t.O k v : Int) : Rat) := by
    intro v h1 h2
    have := cf_nn h hk hr v h1 h2
    exact_mod_cast this
  refine ⟨pri_of (cs := zrs cs.length) (by rw [hz]; exact hw) (fs := (List.range cs.length).map fun (j : Nat) => ((cf t.R t.I t.O k (j : Int) : Int) : Rat)) (by simp [barQ]) (by simp [hz]) (fun q hq => ?_) hlg (fun q hq => ?_) fun xs hx => ?_, ?_⟩
  · obtain ⟨j, hj, rfl⟩ := List.mem_map.mp hq
    have := List.mem_range.mp hj
    exact nn _ (by omega) (by omega)
  · obtain ⟨j, hj, rfl⟩ := List.mem_map.mp hq
    have := List.mem_range.mp hj
    exact nn _ (by omega) (by omega)
  · have := cf_row hw h hk 0 xs (by rw [hx, hz])
    rw [xs1] at this
    rw [dot_zrs]
    grind
  · have := cf_row hw h hk 1 (List.replicate cs.length 0) (by simp)
    rw [xs0, dot_zero_r, dot_neg] at this
    have h1 := rg_sign.1.mpr hb
    grind
theorem dir_sol (h : Kin (cs.length + rs.length) (tab0 cs rs) t) {c : Nat} (hc : c < t.O.length) {u : Int → Rat} (hO : ∀ w' ∈ t.O, u w' = if w' = t.O.getD c 0 then 1 else 0) (hI : ∀ v ∈ t.I, u v = (sOf t.R t.I t.O).al v (t.O.getD c 0)) : xv cs.length u = dirQ t c cs.length := by
  unfold xv dirQ
  refine List.map_congr_left fun j hj => ?_
  have hj' := List.mem_range.mp hj
  have hm := (h.ti.mem (j : Int)).mpr ⟨by omega, by omega⟩
  rcases List.mem_append.mp hm with hm | hm
  · rw [if_neg (by
      intro z
      exact h.ti.disj hm (by rw [z]; exact getD_memW hc))]
    exact hI _ hm
  · rw [hO _ hm]
    split
    · rfl
    · rw [al_outI _ h.ti.hR]
      intro z
      exact h.ti.dis2 z (List.mem_cons_of_mem _ hm)
theorem dir_ok (hw : ∀ r ∈ rs, r.1.length = cs.length) (h : Kin (cs.length + rs.length) (tab0 cs rs) t) {c : Nat} (hc : c < t.O.length) (hb : (t.R.getD (t.R.length - 1) []).getD (c + 2) 0 < 0) (hr : ∀ k, k < t.I.length → 0 ≤ (t.R.getD k []).getD (c + 2) 0) (hlg : ∀ q ∈ dirQ t c cs.length, Lg q) :
    Ent true rs cs.length (dirQ t c cs.length) ∧ dotR cs (dirQ t c cs.length) < 0 := by
  have hR := h.ti.hR
  obtain ⟨u, u1, u2, u3, u4, u5, u6⟩ := col_sol hw h (w := t.O.getD c 0) (.inr (getD_memW hc))
  have hx := dir_sol h hc u4 u5
  rw [hx] at u1 u2
  have hO0 := h.ti.nonneg (.inr (getD_memW hc))
  rw [if_neg (by omega)] at u3
  have hnn : ∀ v : Int, 0 ≤ v → v < cs.length + rs.length → 0 ≤ u v := by
    intro v h1 h2
    have hm := (h.ti.mem v).mpr ⟨h1, h2⟩
    rcases List.mem_append.mp hm with hm | hm
    · rw [u5 v hm]
      obtain ⟨k1, k2⟩ := getD_of_mem hm
      rw [← k2, h.ti.al k1 hc]
      refine Rat.not_lt.mp fun z => ?_
      rw [(div_sign (h.ti.posk (k := t.I.idxOf v) (by omega))).1] at z
      have := rg_ge (hr _ k1)
      exact Rat.not_lt.mpr this z
    · rw [u4 v hm]
      split
      · decide
      · exact Rat.le_refl
  refine ⟨⟨by simp [dirQ], hlg, fun q hq => ?_, fun r hr' => ?_⟩, ?_⟩
  · rw [← hx] at hq
    obtain ⟨j, hj, rfl⟩ := List.mem_map.mp hq
    have := List.mem_range.mp hj
    exact hnn _ (by omega) (by omega)
  · obtain ⟨k, hk, rfl⟩ := List.mem_iff_getElem.mp hr'
    have h1 := u1 k hk
    have h2 := hnn ((cs.length + k : Nat) : Int) (by omega) (by omega)
    rw [u3] at h1
    show (0 : Rat) ≤ _
    grind
  · rw [← u2, u6, h.ti.alz hc]
    rw [(div_sign (h.ti.posk (k := t.R.length - 1) (by omega))).1]
    exact rg_sign.1.mpr hb
/-- where all costs are 0, no column is wrong -/
theorem no_col (hw : ∀ r ∈ rs, r.1.length = cs.length) (hz : ∀ xs, dotR cs xs = 0) (h : Kin (cs.length + rs.length) (tab0 cs rs) t) {c : Nat} (hc : c < t.O.length) (hb : (t.R.getD (t.R.length - 1) []).getD (c + 2) 0 < 0) : False := by
  have hR := h.ti.hR
  obtain ⟨u, u1, u2, u3, u4, u5, u6⟩ := col_sol hw h (w := t.O.getD c 0) (.inr (getD_memW hc))
  rw [hz, u6, h.ti.alz hc] at u2
  have := (div_sign (a := rg (t.R.getD (t.R.length - 1) []) (c + 2)) (h.ti.posk (k := t.R.length - 1) (by omega))).1.mpr (rg_sign.1.mpr hb)
  rw [u2] at this
  exact Rat.lt_irrefl this
end
end W86
set_option linter.all false
set_option maxRecDepth 100000
set_option maxHeartbeats 2000000
/-! W23: what a table tells. -/
namespace W86
open PySem MP I86
variable {fuel d : Nat} {st junk : St} {n : Nat} {R : List (List Int)} {I O : List Int} {m : Bool}
@[simp] theorem fin_tabj (dd : D) (xs : St) : fin chkC true dd (tabS st n R I O junk) (tabS st n R I O (junk ++ xs)) = if nr dd = true then .ok dd (tabS st n R I O junk) else .bad := by
  rw [← tab_app, fin_app]
/-- what is found behind i places -/
def fF (W : List Int) (g : Int → Rat) (val : Nat → Rat) (i : Nat) (v : Int) : Rat := if W.idxOf v < i then val (W.idxOf v) else g v
def fnd (W : List Int) (g : Int → Rat) (val : Nat → Rat) (nam : Nat → Int) (L i : Nat) : List Rat := (List.range L).map fun a => fF W g val i (nam a)
theorem fnd_len (W : List Int) (g : Int → Rat) (val : Nat → Rat) (nam : Nat → Int) (L i : Nat) : (fnd W g val nam L i).length = L := by simp [fnd]
theorem fnd_set {W : List Int} (nd : W.Nodup) {g : Int → Rat} {val : Nat → Rat} {nam : Nat → Int} (hinj : ∀ a b, nam a = nam b → a = b) {L i a0 : Nat} (hi : i < W.length) (ha : a0 < L) (hn : nam a0 = W.getD i 0) : (fnd W g val nam L i).set a0 (val i) = fnd W g val nam L (i + 1) := by
  refine List.ext_getElem (by simp [fnd]) fun a h1 h2 => ?_
  have hidx := idx_of_getD nd hi
  have hL : a < L := by simpa [fnd] using h2
  have hg : ∀ i (h : a < (fnd W g val nam L i).length), (fnd W g val nam L i)[a] = fF W g val i (nam a) := by
    intro i h; simp [fnd]
  rw [List.getElem_set, hg, hg]
  by_cases e : a0 = a
  · subst e
    rw [if_pos rfl, hn]
    unfold fF
    rw [hidx, if_pos (by omega)]
  · rw [if_neg e]
    have hne : W.idxOf (nam a) ≠ i := by
      intro z
      have h3 : W.idxOf (nam a) < W.length := by omega
      have h4 := (getD_of_mem (List.idxOf_lt_length_iff.mp h3)).2
      rw [z, ← hn] at h4
      exact e (hinj _ _ h4)
    unfold fF
    by_cases h : W.idxOf (nam a) < i
    · rw [if_pos h, if_pos (by omega)]
    · rw [if_neg h, if_neg (by omega)]
theorem fnd_skip {W : List Int} (nd : W.Nodup) {g : Int → Rat} {val : Nat → Rat} {nam : Nat → Int} {L i : Nat} (hi : i < W.length) (hn : ∀ a, a < L → nam a ≠ W.getD i 0) : fnd W g val nam L i = fnd W g val nam L (i + 1) := by
  unfold fnd
  refine List.map_congr_left fun a ha => ?_
  have hne : W.idxOf (nam a) ≠ i := by
    intro z
    have h3 : W.idxOf (nam a) < W.length := by omega
    have h4 := (getD_of_mem (List.idxOf_lt_length_iff.mp h3)).2
    rw [z] at h4
    exact hn a (List.mem_range.mp ha) h4.symm
  unfold fF
  by_cases h : W.idxOf (nam a) < i
  · rw [if_pos h, if_pos (by omega)]
  · rw [if_neg h, if_neg (by omega)]
theorem fnd_0 (W : List Int) (g : Int → Rat) (val : Nat → Rat) (nam : Nat → Int) (L : Nat) : fnd W g val nam L 0 = (List.range L).map fun a => g (nam a) := by
  unfold fnd fF
  simp
/-- the store of what is found -/
def fndS (st : St) (n : Nat) (R : List (List Int)) (I O : List Int) (junk : St) (qs : List Rat) : St := tabS st n R I O (junk ++ [.lst (qs.map qD)])
abbrev fR (st junk : St) : D := .ref (st.length + 4 + junk.length)
theorem fnd_setD {qs : List Rat} (j : Nat) (hj : j < qs.length) (v : Rat) : setD (fR st junk) (.int j) (qD v) (fndS st n R I O junk qs) = some (fndS st n R I O junk (qs.set j v)) := by
  unfold fndS fR
  rw [set_ref (tab_junk junk [] _) j (by simpa using hj), tab_junk_set junk []]
  simp [List.map_set]
theorem fnd_tuple (qs : List Rat) : biD .tuple1 m [fR st junk] (fndS st n R I O junk qs) = .ok (.tup (qs.map qD)) (fndS st n R I O junk qs) := by
  unfold biD fR fndS
  dsimp only
  unfold lstOf
  dsimp only
  rw [tab_junk junk []]
theorem glob0 : pk.pg.glob 0 = some (qD 0) := rfl
theorem zeros_L {c : Cfg} (k i : Nat) (env : En) (p q : Pos) (s : St) (hc : c.glob 0 = some (qD 0)) (hne : ∀ x, ∃ y ys, (wipeE env [i]).set i (some x) = y :: ys) : compL (turnB c [i] (.glob p 0) (.name q i) .nil env) (rangeL 0 k) [] s = .ok ((zrs k).map qD) s := by
  rw [compL_all (f := fun _ => qD 0) _ (fun x hx => ?_), map_const]
  · simp [zrs]
  · rw [turn_name]
    obtain ⟨y, ys, e⟩ := hne x
    rw [e]
    simp [hc]
theorem zrs_fnd (W : List Int) (val : Nat → Rat) (nam : Nat → Int) (L : Nat) : zrs L = fnd W (fun _ => 0) val nam L 0 := by
  rw [fnd_0]
  unfold zrs
  rw [List.map_const', List.length_range]
theorem rg_div {r : List Int} {i j : Nat} : Rat.divInt (r.getD i 0) (r.getD j 0) = rg r i / rg r j := Rat.divInt_eq_div _ _
/-- the values at inner places -/
theorem point_loop {E : Nat} (hE : E < 9000) (t : TI (n + I.length) R I O) (hO : O.length = n) (br : ∀ r ∈ R, ∀ a ∈ r, Bd E a) (val : Nat → Rat) (hv : ∀ k, k < R.length → rg (R.getD k []) 1 / rg (R.getD k []) 0 = val k) :
    ∀ (k i : Nat) (k0 : Option D), i + k = I.length → ∃ k1, forL (stepB (cfgOf pk.pg fuel (callF pk.pg chkC fuel (d + 1))) lt32_0 lb32_0) (rangeL i I.length) [some (.ref st.length), k0, some (fR st junk)] (fndS st n R I O junk (fnd I (fun _ => 0) val (fun a => (a : Int)) n i)) =
      .next [some (.ref st.length), k1, some (fR st junk)] (fndS st n R I O junk (fnd I (fun _ => 0) val (fun a => (a : Int)) n I.length))
  | 0, i, k0, hi => by
    rw [range_nil _ _ (by omega)]
    have : i = I.length := by omega
    subst this
    exact ⟨k0, by unfold forL; rfl⟩
  | k + 1, i, k0, hi => by
    have hi' : i < I.length := by omega
    have hR := t.hR
    have hiR : i < R.length := by omega
    have hrl := t.rl hiR
    have eRi : R.getD i [] = R[i] := by simp [hiR]
    have eIi : I.getD i 0 = I[i] := by simp [hi']
    rw [eRi] at hrl
    obtain ⟨k1, ih⟩ := point_loop hE t hO br val hv k (i + 1) (some (.int i)) (by omega)
    refine ⟨k1, ?_⟩
    rw [range_cons _ _ (by omega)]
    unfold forL
    have e2 : ((i + 1 : Nat) : Int) = (i : Int) + 1 := by omega
    rw [e2] at ih
    have hx1 := idx_ints R[i] 1 (by omega)
    have hx0 := idx_ints R[i] 0 (by omega)
    have e10 : ((1 : Nat) : Int) = 1 := rfl
    have e00 : ((0 : Nat) : Int) = 0 := rfl
    rw [e10] at hx1
    rw [e00] at hx0
    have g1 : R[i].getD 1 0 = R[i][1] := by simp [show 1 < R[i].length by omega]
    have g0 : R[i].getD 0 0 = R[i][0] := by simp [show 0 < R[i].length by omega]
    have hpos := t.pos _ (List.getElem_mem hiR)
    rw [g0] at hpos
    have hrat := fun s => ev_ratio' (fuel := fuel) (d := d) (st := s) R[i][1] R[i][0] (by omega) (br _ (List.getElem_mem hiR) _ (List.getElem_mem _)) hE
    have hval : Rat.divInt R[i][1] R[i][0] = val i := by
      rw [← hv i hiR, eRi, ← rg_div, g1, g0]
    have step : stepB (cfgOf pk.pg fuel (callF pk.pg chkC fuel (d + 1))) lt32_0 lb32_0 (.int i) [some (.ref st.length), k0, some (fR st junk)] (fndS st n R I O junk (fnd I (fun _ => 0) val (fun a => (a : Int)) n i)) =
        .next [some (.ref st.length), some (.int i), some (fR st junk)] (fndS st n R I O junk (fnd I (fun _ => 0) val (fun a => (a : Int)) n (i + 1))) := by
      unfold lt32_0 lb32_0
      by_cases hc : I[i] < (n : Int)
      · have h0 : 0 ≤ I[i] := t.nonneg (.inl (List.getElem_mem hi'))
        have en : ((I[i].toNat : Nat) : Int) = I[i] := by omega
        have hset := fnd_setD (st := st) (junk := junk) (n := n) (R := R) (I := I) (O := O) (qs := fnd I (fun _ => 0) val (fun a => (a : Int)) n i) I[i].toNat (by rw [fnd_len]; omega) (val i)
        rw [fnd_set (List.nodup_append.mp t.nd).1 (fun a b h => by omega) hi' (by omega) (by rw [eIi]; exact en), en] at hset
        unfold fndS at *
        simp [idx_inner i hi', idx_rowsT i hiR, hx1, hx0, hc, hrat, hval, setK, hset]
      · have hsk := fnd_skip (g := fun _ => 0) (val := val) (nam := fun a => (a : Int)) (L := n) (List.nodup_append.mp t.nd).1 hi' (fun a ha => by rw [eIi]; omega)
        rw [← hsk]
        unfold fndS at *
        simp [idx_inner i hi', hc]
    rw [step]
    exact ih
theorem ev_point {E : Nat} (hE : E < 9000) (t : TI (n + I.length) R I O) (hO : O.length = n) (hn : n ≤ 1000) (hm : I.length ≤ 1000) (br : ∀ r ∈ R, ∀ a ∈ r, Bd E a) :
    callF pk.pg chkC fuel (d + 2) 32 [.ref st.length] (tabS st n R I O junk) = .ok (.tup ((ptQ ⟨R, I, O⟩ n).map qD)) (tabS st n R I O junk) := by
  rw [call_eq 32 f32 rfl _ [.ref st.length] rfl]
  obtain ⟨k1, hl⟩ := point_loop (fuel := fuel) (d := d) (st := st) (junk := junk) hE t hO br _ (fun _ _ => rfl) I.length 0 none (by omega)
  rw [← zrs_fnd] at hl
  have e00 : ((0 : Nat) : Int) = 0 := rfl
  rw [e00] at hl
  have hz := fun p q => zeros_L (c := cfgOf pk.pg fuel (callF pk.pg chkC fuel (d + 1))) n 1 [some (.ref st.length), none, none] p q (tabS st n R I O junk) glob0 (fun x => ⟨_, _, rfl⟩)
  have e : fnd I (fun _ => 0) (fun k => rg (R.getD k []) 1 / rg (R.getD k []) 0) (fun a => (a : Int)) n I.length = ptQ ⟨R, I, O⟩ n := by
    unfold fnd ptQ
    refine List.map_congr_left fun j _ => ?_
    unfold fF
    by_cases h : I.idxOf (j : Int) < I.length
    · rw [if_pos h]
      obtain ⟨k1, k2⟩ := getD_of_mem (List.idxOf_lt_length_iff.mp h)
      have := t.al0 k1
      rw [k2] at this
      exact this.symm
    · rw [if_neg h]
      refine (al_outI (t := ⟨R, I, O⟩) (fun z => ?_) t.hR).symm
      rcases List.mem_append.mp z with z | z
      · exact h (List.idxOf_lt_length_iff.mpr z)
      · have : (j : Int) = -1 := by simpa using z
        omega
  rw [e] at hl
  unfold lt32_0 lb32_0 at hl
  have hs1 : small n := by unfold small; omega
  have hs2 : small I.length := by unfold small; omega
  have ht := fnd_tuple (st := st) (junk := junk) (n := n) (R := R) (I := I) (O := O) (m := false) (ptQ ⟨R, I, O⟩ n)
  have hnr : nrs ((ptQ ⟨R, I, O⟩ n).map qD) = true := nrs_map _ nr_qD _
  unfold fndS fR at *
  unfold runF f32 b32
  simp [hs1, hs2, hz, hl, ht, hnr]
end W86
set_option linter.all false
set_option maxRecDepth 100000
set_option maxHeartbeats 2000000
/-! W24: prices, bar, direction. -/
namespace W86
open PySem MP I86
variable {fuel d : Nat} {st junk : St} {n : Nat} {R : List (List Int)} {I O : List Int} {m : Bool}
def nmo (n : Nat) : Nat → Int := fun a => ((n + a : Nat) : Int)
theorem nmo_inj (n : Nat) (a b : Nat) (h : nmo n a = nmo n b) : a = b := by
  unfold nmo at h; omega
theorem nmo_eq (n a : Nat) : nmo n a = (n : Int) + a := by
  unfold nmo; omega
theorem prices_loop {E : Nat} (hE : E < 9000) (t : TI (n + I.length) R I O) (hO : O.length = n) (last : List Int) (hl : last.length = n + 2) (hp : 0 < last.getD 0 0) (br : ∀ a ∈ last, Bd E a) (val : Nat → Rat) (hv : ∀ c, rg last (c + 2) / rg last 0 = val c) :
    ∀ (k i : Nat) (k0 : Option D), i + k = n → ∃ k1, forL (stepB (cfgOf pk.pg fuel (callF pk.pg chkC fuel (d + 1))) lt33_0 lb33_0) (rangeL i n) [some (.ref st.length), k0, some (fR st junk), some (intsL last)] (fndS st n R I O junk (fnd O (fun _ => 0) val (nmo n) I.length i)) =
      .next [some (.ref st.length), k1, some (fR st junk), some (intsL last)] (fndS st n R I O junk (fnd O (fun _ => 0) val (nmo n) I.length n))
  | 0, i, k0, hi => by
    rw [range_nil _ _ (by omega)]
    have : i = n := by omega
    subst this
    exact ⟨k0, by unfold forL; rfl⟩
  | k + 1, i, k0, hi => by
    have hi' : i < O.length := by omega
    have eOi : O.getD i 0 = O[i] := by simp [hi']
    obtain ⟨k1, ih⟩ := prices_loop hE t hO last hl hp br val hv k (i + 1) (some (.int i)) (by omega)
    refine ⟨k1, ?_⟩
    rw [range_cons _ _ (by omega)]
    unfold forL
    have e2 : ((i + 1 : Nat) : Int) = (i : Int) + 1 := by omega
    rw [e2] at ih
    have h2 : i + 2 < last.length := by omega
    have h0 : 0 < last.length := by omega
    have hx2 := idx_ints last (i + 2) h2
    have hx0 := idx_ints last 0 h0
    have e22 : ((i + 2 : Nat) : Int) = (i : Int) + 2 := by omega
    have e00 : ((0 : Nat) : Int) = 0 := rfl
    rw [e22] at hx2
    rw [e00] at hx0
    have g2 : last.getD (i + 2) 0 = last[i + 2] := by simp [h2]
    have g0 : last.getD 0 0 = last[0] := by simp [h0]
    rw [g0] at hp
    have hrat := fun s => ev_ratio' (fuel := fuel) (d := d) (st := s) last[i + 2] last[0] (by omega) (br _ (List.getElem_mem _)) hE
    have hval : Rat.divInt last[i + 2] last[0] = val i := by
      rw [← hv i, ← rg_div, g2, g0]
    have hmem := t.mem O[i]
    have hOi : O[i] ∈ I ++ O := List.mem_append_right _ (List.getElem_mem hi')
    have hrange := hmem.mp hOi
    have step : stepB (cfgOf pk.pg fuel (callF pk.pg chkC fuel (d + 1))) lt33_0 lb33_0 (.int i) [some (.ref st.length), k0, some (fR st junk), some (intsL last)] (fndS st n R I O junk (fnd O (fun _ => 0) val (nmo n) I.length i)) =
        .next [some (.ref st.length), some (.int i), some (fR st junk), some (intsL last)] (fndS st n R I O junk (fnd O (fun _ => 0) val (nmo n) I.length (i + 1))) := by
      unfold lt33_0 lb33_0
      by_cases hc : (n : Int) ≤ O[i]
      · have en : (((O[i] - n).toNat : Nat) : Int) = O[i] - n := by omega
        have hset := fnd_setD (st := st) (junk := junk) (n := n) (R := R) (I := I) (O := O) (qs := fnd O (fun _ => 0) val (nmo n) I.length i) (O[i] - n).toNat (by rw [fnd_len]; omega) (val i)
        rw [fnd_set (List.nodup_append.mp t.nd).2.1 (nmo_inj n) hi' (by omega) (by rw [eOi, nmo_eq]; omega), en] at hset
        unfold fndS at *
        simp [idx_outer i hi', hx2, hx0, hc, hrat, hval, setK, hset]
      · have hsk := fnd_skip (g := fun _ => 0) (val := val) (nam := nmo n) (L := I.length) (List.nodup_append.mp t.nd).2.1 hi' (fun a ha => by rw [eOi, nmo_eq]; omega)
        rw [← hsk]
        unfold fndS at *
        simp [idx_outer i hi', hc]
    rw [step]
    exact ih
theorem ev_pricesT {E : Nat} (hE : E < 9000) (t : TI (n + I.length) R I O) (hO : O.length = n) (hn : n ≤ 1000) (hm : I.length ≤ 1000) (br : ∀ r ∈ R, ∀ a ∈ r, Bd E a) :
    callF pk.pg chkC fuel (d + 2) 33 [.ref st.length] (tabS st n R I O junk) = .ok (.tup ((prQ ⟨R, I, O⟩ n I.length).map qD)) (tabS st n R I O junk) := by
  rw [call_eq 33 f33 rfl _ [.ref st.length] rfl]
  have hR := t.hR
  have hlt : R.length - 1 < R.length := by omega
  have eL : R.getD (R.length - 1) [] = R[R.length - 1] := by simp [hlt]
  have hmL := List.getElem_mem hlt
  obtain ⟨k1, hl⟩ := prices_loop (fuel := fuel) (d := d) (st := st) (junk := junk) hE t hO R[R.length - 1] (by rw [t.row _ hmL, hO]) (t.pos _ hmL) (br _ hmL) _ (fun _ => rfl) n 0 none (by omega)
  rw [← zrs_fnd] at hl
  have e00 : ((0 : Nat) : Int) = 0 := rfl
  rw [e00] at hl
  have hz := fun p q => zeros_L (c := cfgOf pk.pg fuel (callF pk.pg chkC fuel (d + 1))) I.length 1 [some (.ref st.length), none, none, none] p q (tabS st n R I O junk) glob0 (fun x => ⟨_, _, rfl⟩)
  have e : fnd O (fun _ => 0) (fun c => rg R[R.length - 1] (c + 2) / rg R[R.length - 1] 0) (nmo n) I.length n = prQ ⟨R, I, O⟩ n I.length := by
    unfold fnd prQ
    refine List.map_congr_left fun j _ => ?_
    unfold fF nmo
    by_cases h : O.idxOf ((n + j : Nat) : Int) < n
    · rw [if_pos h]
      rw [← hO] at h
      obtain ⟨k1, k2⟩ := getD_of_mem (List.idxOf_lt_length_iff.mp h)
      have := t.alz k1
      rw [hO] at k2 this
      rw [k2, eL] at this
      exact this.symm
    · rw [if_neg h]
      refine (al_out (t := ⟨R, I, O⟩) (fun z => ?_) t.row).symm
      rcases List.mem_cons.mp z with z | z
      · omega
      · have := List.idxOf_lt_length_iff.mpr z
        exact h (by show O.idxOf ((n + j : Nat) : Int) < n; exact Nat.lt_of_lt_of_eq this hO)
  rw [e] at hl
  unfold lt33_0 lb33_0 at hl
  have hs1 : small n := by unfold small; omega
  have hs2 : small I.length := by unfold small; omega
  have ht := fnd_tuple (st := st) (junk := junk) (n := n) (R := R) (I := I) (O := O) (m := false) (prQ ⟨R, I, O⟩ n I.length)
  have hnr : nrs ((prQ ⟨R, I, O⟩ n I.length).map qD) = true := nrs_map _ nr_qD _
  have hla : idxD (tabS st n R I O (junk ++ [.lst ((zrs I.length).map qD)])) (.ref (st.length + 1)) (.int (-1)) = some (intsL R[R.length - 1]) := idx_last (by omega)
  unfold fndS fR at *
  unfold runF f33 b33
  simp [hs1, hs2, hz, hl, ht, hnr, hla]
/-! bars -/
theorem int_qD (i : Int) : D.tup [.int i, .int 1] = qD (i : Rat) := rfl
theorem bar_loop (t : TI (n + I.length) R I O) (hO : O.length = n) (a1 : Nat) (row : List Int) (hl : row.length = n + 2) (g : Int → Rat) (val : Nat → Rat) (hv : ∀ c, ((-(row.getD (c + 2) 0) : Int) : Rat) = val c) :
    ∀ (k i : Nat) (k0 : Option D), i + k = n → ∃ k1, forL (stepB (cfgOf pk.pg fuel (callF pk.pg chkC fuel d)) lt34_0 lb34_0) (rangeL i n) [some (.ref st.length), some (.int a1), k0, some (fR st junk), some (intsL row)] (fndS st n R I O junk (fnd O g val (nmo n) I.length i)) =
      .next [some (.ref st.length), some (.int a1), k1, some (fR st junk), some (intsL row)] (fndS st n R I O junk (fnd O g val (nmo n) I.length n))
  | 0, i, k0, hi => by
    rw [range_nil _ _ (by omega)]
    have : i = n := by omega
    subst this
    exact ⟨k0, by unfold forL; rfl⟩
  | k + 1, i, k0, hi => by
    have hi' : i < O.length := by omega
    have eOi : O.getD i 0 = O[i] := by simp [hi']
    obtain ⟨k1, ih⟩ := bar_loop t hO a1 row hl g val hv k (i + 1) (some (.int i)) (by omega)
    refine ⟨k1, ?_⟩
    rw [range_cons _ _ (by omega)]
    unfold forL
    have e2 : ((i + 1 : Nat) : Int) = (i : Int) + 1 := by omega
    rw [e2] at ih
    have h2 : i + 2 < row.length := by omega
    have hx2 := idx_ints row (i + 2) h2
    have e22 : ((i + 2 : Nat) : Int) = (i : Int) + 2 := by omega
    rw [e22] at hx2
    have g2 : row.getD (i + 2) 0 = row[i + 2] := by simp [h2]
    have hval : qD (((-row[i + 2] : Int)) : Rat) = qD (val i) := by
      rw [← hv i, g2]
    have hmem := t.mem O[i]
    have hOi : O[i] ∈ I ++ O := List.mem_append_right _ (List.getElem_mem hi')
    have hrange := hmem.mp hOi
    have step : stepB (cfgOf pk.pg fuel (callF pk.pg chkC fuel d)) lt34_0 lb34_0 (.int i) [some (.ref st.length), some (.int a1), k0, some (fR st junk), some (intsL row)] (fndS st n R I O junk (fnd O g val (nmo n) I.length i)) =
        .next [some (.ref st.length), some (.int a1), some (.int i), some (fR st junk), some (intsL row)] (fndS st n R I O junk (fnd O g val (nmo n) I.length (i + 1))) := by
      unfold lt34_0 lb34_0
      by_cases hc : (n : Int) ≤ O[i]
      · have en : (((O[i] - n).toNat : Nat) : Int) = O[i] - n := by omega
        have hset := fnd_setD (st := st) (junk := junk) (n := n) (R := R) (I := I) (O := O) (qs := fnd O g val (nmo n) I.length i) (O[i] - n).toNat (by rw [fnd_len]; omega) (val i)
        rw [fnd_set (List.nodup_append.mp t.nd).2.1 (nmo_inj n) hi' (by omega) (by rw [eOi, nmo_eq]; omega), en, ← hval, ← int_qD] at hset
        unfold fndS at *
        simp [idx_outer i hi', hx2, hc, setK, hset]
      · have hsk := fnd_skip (g := g) (val := val) (nam := nmo n) (L := I.length) (List.nodup_append.mp t.nd).2.1 hi' (fun a ha => by rw [eOi, nmo_eq]; omega)
        rw [← hsk]
        unfold fndS at *
        simp [idx_outer i hi', hc]
    rw [step]
    exact ih
/-- a list of what is found, one place set or none -/
theorem fnd_one (W : List Int) (val : Nat → Rat) (nam : Nat → Int) (hinj : ∀ a b, nam a = nam b → a = b) (L a0 : Nat) (v : Int) (x : Rat) (hn : nam a0 = v) : (zrs L).set a0 x = fnd W (fun w => if w = v then x else 0) val nam L 0 := by
  rw [fnd_0]
  refine List.ext_getElem (by simp [zrs]) fun a h1 h2 => ?_
  rw [List.getElem_set]
  by_cases e : a0 = a
  · subst e
    simp [hn]
  · rw [if_neg e]
    have : nam a ≠ v := fun z => e (hinj _ _ (by rw [hn, z]))
    simp [zrs, this]
theorem fnd_none (W : List Int) (val : Nat → Rat) (nam : Nat → Int) (L : Nat) (v : Int) (x : Rat) (hn : ∀ a, a < L → nam a ≠ v) : zrs L = fnd W (fun w => if w = v then x else 0) val nam L 0 := by
  rw [fnd_0]
  refine List.ext_getElem (by simp [zrs]) fun a h1 h2 => ?_
  have : nam a ≠ v := hn a (by simpa [zrs] using h1)
  simp [zrs, this]
theorem ev_bar {k : Nat} (t : TI (n + I.length) R I O) (hO : O.length = n) (hn : n ≤ 1000) (hm : I.length ≤ 1000) (hk : k < I.length) :
    callF pk.pg chkC fuel (d + 1) 34 [.ref st.length, .int k] (tabS st n R I O junk) = .ok (.tup ((barQ ⟨R, I, O⟩ k n I.length).map qD)) (tabS st n R I O junk) := by
  rw [call_eq 34 f34 rfl _ [.ref st.length, .int k] rfl]
  have hR := t.hR
  have hkR : k < R.length := by omega
  have eR : R.getD k [] = R[k] := by simp [hkR]
  have eI : I.getD k 0 = I[k] := by simp [hk]
  have hmL := List.getElem_mem hkR
  have hlen : R[k].length = n + 2 := by rw [t.row _ hmL, hO]
  have h0 : 0 < R[k].length := by omega
  obtain ⟨k1, hl⟩ := bar_loop (fuel := fuel) (d := d) (st := st) (junk := junk) t hO k R[k] hlen (fun w => if w = I[k] then ((R[k][0] : Int) : Rat) else 0) _ (fun _ => rfl) n 0 none (by omega)
  have e00 : ((0 : Nat) : Int) = 0 := rfl
  rw [e00] at hl
  have hz := fun p q => zeros_L (c := cfgOf pk.pg fuel (callF pk.pg chkC fuel d)) I.length 2 [some (.ref st.length), some (.int k), none, none, none] p q (tabS st n R I O junk) glob0 (fun x => ⟨_, _, rfl⟩)
  have hrange := (t.mem I[k]).mp (List.mem_append_left _ (List.getElem_mem hk))
  have g0 : R[k].getD 0 0 = R[k][0] := by simp [h0]
  have e : fnd O (fun w => if w = I[k] then ((R[k][0] : Int) : Rat) else 0) (fun c => ((-(R[k].getD (c + 2) 0) : Int) : Rat)) (nmo n) I.length n = barQ ⟨R, I, O⟩ k n I.length := by
    unfold fnd barQ
    refine List.map_congr_left fun j hj => ?_
    have hj' := List.mem_range.mp hj
    unfold fF nmo
    dsimp only
    have hmj := (t.mem ((n + j : Nat) : Int)).mpr ⟨by omega, by omega⟩
    by_cases h : O.idxOf ((n + j : Nat) : Int) < n
    · rw [if_pos h]
      rw [← hO] at h
      have hmO := List.idxOf_lt_length_iff.mp h
      rw [hO] at hmO
      have h3 := t.cfO hkR (List.mem_cons_of_mem _ hmO)
      obtain ⟨c1, c2⟩ := getD_of_mem hmO
      have h4 := t.idxO c1
      rw [c2] at h4
      rw [h4, eR] at h3
      show _ = ((cf R I O k ((n + j : Nat) : Int) : Int) : Rat)
      rw [h3]
    · rw [if_neg h]
      have hmI : ((n + j : Nat) : Int) ∈ I := by
        rcases List.mem_append.mp hmj with z | z
        · exact z
        · exact absurd (by have := List.idxOf_lt_length_iff.mpr z; omega) h
      have h3 := t.cfI hkR (List.mem_append_left _ hmI)
      have e5 : (I ++ [-1]).getD k 0 = I[k] := by
        rw [List.getD_eq_getElem?_getD, List.getElem?_append_left hk, List.getElem?_eq_getElem hk]; rfl
      rw [e5, eR, g0] at h3
      show _ = ((cf R I O k ((n + j : Nat) : Int) : Int) : Rat)
      rw [h3]
      by_cases e6 : ((n + j : Nat) : Int) = I[k]
      · rw [if_pos e6, if_pos e6.symm]
      · rw [if_neg e6, if_neg (fun z => e6 z.symm)]; rfl
  rw [e] at hl
  have hs1 : small n := by unfold small; omega
  have hs2 : small I.length := by unfold small; omega
  have ht := fnd_tuple (st := st) (junk := junk) (n := n) (R := R) (I := I) (O := O) (m := false) (barQ ⟨R, I, O⟩ k n I.length)
  have hnr : nrs ((barQ ⟨R, I, O⟩ k n I.length).map qD) = true := nrs_map _ nr_qD _
  have hx0 := idx_ints R[k] 0 h0
  rw [e00] at hx0
  unfold lt34_0 lb34_0 at hl
  by_cases hc : (n : Int) ≤ I[k]
  · have en : (((I[k] - n).toNat : Nat) : Int) = I[k] - n := by omega
    have hset := fnd_setD (st := st) (junk := junk) (n := n) (R := R) (I := I) (O := O) (qs := zrs I.length) (I[k] - n).toNat (by simp [zrs]; omega) ((R[k][0] : Int) : Rat)
    rw [fnd_one O (fun c => ((-(R[k].getD (c + 2) 0) : Int) : Rat)) (nmo n) (nmo_inj n) I.length (I[k] - n).toNat I[k] _ (by rw [nmo_eq]; omega), en, ← int_qD] at hset
    generalize fnd O (fun w => if w = I[k] then ((R[k][0] : Int) : Rat) else 0) (fun c => ((-(R[k].getD (c + 2) 0) : Int) : Rat)) (nmo n) I.length 0 = F0 at *
    unfold fndS fR at *
    unfold runF f34 b34
    simp [hs1, hs2, hz, idx_rowsT k hkR, idx_inner k hk, hc, hx0, setK, hset, hl, ht, hnr]
  · have hno := fnd_none O (fun c => ((-(R[k].getD (c + 2) 0) : Int) : Rat)) (nmo n) I.length I[k] ((R[k][0] : Int) : Rat) (fun a ha => by rw [nmo_eq]; omega)
    rw [← hno] at hl
    unfold fndS fR at *
    unfold runF f34 b34
    simp [hs1, hs2, hz, idx_rowsT k hkR, idx_inner k hk, hc, hl, ht, hnr]
end W86
set_option linter.all false
set_option maxRecDepth 100000
set_option maxHeartbeats 2000000
/-! W25: direction; the first table. -/
namespace W86
open PySem MP I86
variable {fuel d : Nat} {st junk : St} {n : Nat} {R : List (List Int)} {I O : List Int} {m : Bool}
theorem dir_loop {E c : Nat} (hE : E < 9000) (t : TI (n + I.length) R I O) (hO : O.length = n) (hc : c < n) (br : ∀ r ∈ R, ∀ a ∈ r, Bd E a) (g : Int → Rat) (val : Nat → Rat) (hv : ∀ k, k < R.length → rg (R.getD k []) (c + 2) / rg (R.getD k []) 0 = val k) :
    ∀ (k i : Nat) (k0 : Option D), i + k = I.length → ∃ k1, forL (stepB (cfgOf pk.pg fuel (callF pk.pg chkC fuel (d + 1))) lt35_0 lb35_0) (rangeL i I.length) [some (.ref st.length), some (.int c), k0, some (fR st junk)] (fndS st n R I O junk (fnd I g val (fun a => (a : Int)) n i)) =
      .next [some (.ref st.length), some (.int c), k1, some (fR st junk)] (fndS st n R I O junk (fnd I g val (fun a => (a : Int)) n I.length))
  | 0, i, k0, hi => by
    rw [range_nil _ _ (by omega)]
    have : i = I.length := by omega
    subst this
    exact ⟨k0, by unfold forL; rfl⟩
  | k + 1, i, k0, hi => by
    have hi' : i < I.length := by omega
    have hR := t.hR
    have hiR : i < R.length := by omega
    have hrl := t.rl hiR
    have eRi : R.getD i [] = R[i] := by simp [hiR]
    have eIi : I.getD i 0 = I[i] := by simp [hi']
    rw [eRi] at hrl
    obtain ⟨k1, ih⟩ := dir_loop hE t hO hc br g val hv k (i + 1) (some (.int i)) (by omega)
    refine ⟨k1, ?_⟩
    rw [range_cons _ _ (by omega)]
    unfold forL
    have e2 : ((i + 1 : Nat) : Int) = (i : Int) + 1 := by omega
    rw [e2] at ih
    have h2 : c + 2 < R[i].length := by omega
    have hx1 := idx_ints R[i] (c + 2) h2
    have hx0 := idx_ints R[i] 0 (by omega)
    have e10 : ((c + 2 : Nat) : Int) = (c : Int) + 2 := by omega
    have e00 : ((0 : Nat) : Int) = 0 := rfl
    rw [e10] at hx1
    rw [e00] at hx0
    have g1 : R[i].getD (c + 2) 0 = R[i][c + 2] := by simp [h2]
    have g0 : R[i].getD 0 0 = R[i][0] := by simp [show 0 < R[i].length by omega]
    have hpos := t.pos _ (List.getElem_mem hiR)
    rw [g0] at hpos
    have hrat := fun s => ev_ratio' (fuel := fuel) (d := d) (st := s) R[i][c + 2] R[i][0] (by omega) (br _ (List.getElem_mem hiR) _ (List.getElem_mem _)) hE
    have hval : Rat.divInt R[i][c + 2] R[i][0] = val i := by
      rw [← hv i hiR, eRi, ← rg_div, g1, g0]
    have step : stepB (cfgOf pk.pg fuel (callF pk.pg chkC fuel (d + 1))) lt35_0 lb35_0 (.int i) [some (.ref st.length), some (.int c), k0, some (fR st junk)] (fndS st n R I O junk (fnd I g val (fun a => (a : Int)) n i)) =
        .next [some (.ref st.length), some (.int c), some (.int i), some (fR st junk)] (fndS st n R I O junk (fnd I g val (fun a => (a : Int)) n (i + 1))) := by
      unfold lt35_0 lb35_0
      by_cases hc : I[i] < (n : Int)
      · have h0 : 0 ≤ I[i] := t.nonneg (.inl (List.getElem_mem hi'))
        have en : ((I[i].toNat : Nat) : Int) = I[i] := by omega
        have hset := fnd_setD (st := st) (junk := junk) (n := n) (R := R) (I := I) (O := O) (qs := fnd I g val (fun a => (a : Int)) n i) I[i].toNat (by rw [fnd_len]; omega) (val i)
        rw [fnd_set (List.nodup_append.mp t.nd).1 (fun a b h => by omega) hi' (by omega) (by rw [eIi]; exact en), en] at hset
        unfold fndS at *
        simp [idx_inner i hi', idx_rowsT i hiR, hx1, hx0, hc, hrat, hval, setK, hset]
      · have hsk := fnd_skip (g := g) (val := val) (nam := fun a => (a : Int)) (L := n) (List.nodup_append.mp t.nd).1 hi' (fun a ha => by rw [eIi]; omega)
        rw [← hsk]
        unfold fndS at *
        simp [idx_inner i hi', hc]
    rw [step]
    exact ih
theorem ev_dir {E c : Nat} (hE : E < 9000) (t : TI (n + I.length) R I O) (hO : O.length = n) (hn : n ≤ 1000) (hm : I.length ≤ 1000) (hcn : c < n) (br : ∀ r ∈ R, ∀ a ∈ r, Bd E a) :
    callF pk.pg chkC fuel (d + 2) 35 [.ref st.length, .int c] (tabS st n R I O junk) = .ok (.tup ((dirQ ⟨R, I, O⟩ c n).map qD)) (tabS st n R I O junk) := by
  rw [call_eq 35 f35 rfl _ [.ref st.length, .int c] rfl]
  have hR := t.hR
  have hcO : c < O.length := by omega
  have eO : O.getD c 0 = O[c] := by simp [hcO]
  obtain ⟨k1, hl⟩ := dir_loop (fuel := fuel) (d := d) (st := st) (junk := junk) hE t hO hcn br (fun w => if w = O[c] then 1 else 0) _ (fun _ _ => rfl) I.length 0 none (by omega)
  have e00 : ((0 : Nat) : Int) = 0 := rfl
  rw [e00] at hl
  have hz := fun p q => zeros_L (c := cfgOf pk.pg fuel (callF pk.pg chkC fuel (d + 1))) n 2 [some (.ref st.length), some (.int c), none, none] p q (tabS st n R I O junk) glob0 (fun x => ⟨_, _, rfl⟩)
  have e : fnd I (fun w => if w = O[c] then 1 else 0) (fun k => rg (R.getD k []) (c + 2) / rg (R.getD k []) 0) (fun a => (a : Int)) n I.length = dirQ ⟨R, I, O⟩ c n := by
    unfold fnd dirQ
    refine List.map_congr_left fun j _ => ?_
    unfold fF
    dsimp only
    rw [eO]
    by_cases h : I.idxOf (j : Int) < I.length
    · rw [if_pos h]
      have hmI := List.idxOf_lt_length_iff.mp h
      obtain ⟨k1, k2⟩ := getD_of_mem hmI
      have := t.al k1 hcO
      rw [k2, eO] at this
      rw [if_neg (by
        intro z
        exact t.disj hmI (by rw [z]; exact List.getElem_mem hcO))]
      exact this.symm
    · rw [if_neg h]
      by_cases e6 : (j : Int) = O[c]
      · rw [if_pos e6, if_pos e6]
      · rw [if_neg e6, if_neg e6]
        refine (al_outI (t := ⟨R, I, O⟩) (fun z => ?_) t.hR).symm
        rcases List.mem_append.mp z with z | z
        · exact h (List.idxOf_lt_length_iff.mpr z)
        · have : (j : Int) = -1 := by simpa using z
          omega
  rw [e] at hl
  have hs1 : small n := by unfold small; omega
  have hs2 : small I.length := by unfold small; omega
  have ht := fnd_tuple (st := st) (junk := junk) (n := n) (R := R) (I := I) (O := O) (m := false) (dirQ ⟨R, I, O⟩ c n)
  have hnr : nrs ((dirQ ⟨R, I, O⟩ c n).map qD) = true := nrs_map _ nr_qD _
  have h0 : 0 ≤ O[c] := t.nonneg (.inr (List.getElem_mem hcO))
  unfold lt35_0 lb35_0 at hl
  by_cases hc : O[c] < (n : Int)
  · have en : ((O[c].toNat : Nat) : Int) = O[c] := by omega
    have hset := fnd_setD (st := st) (junk := junk) (n := n) (R := R) (I := I) (O := O) (qs := zrs n) O[c].toNat (by simp [zrs]; omega) 1
    rw [fnd_one I (fun k => rg (R.getD k []) (c + 2) / rg (R.getD k []) 0) (fun a => (a : Int)) (fun a b h => by omega) n O[c].toNat O[c] _ (by omega), en] at hset
    generalize fnd I (fun w => if w = O[c] then 1 else 0) (fun k => rg (R.getD k []) (c + 2) / rg (R.getD k []) 0) (fun a => (a : Int)) n 0 = F0 at *
    have e1 : qD 1 = .tup [.int 1, .int 1] := rfl
    rw [e1] at hset
    unfold fndS fR at *
    unfold runF f35 b35
    simp [hs1, hs2, hz, idx_outer c hcO, hc, setK, hset, hl, ht, hnr]
  · have hno := fnd_none I (fun k => rg (R.getD k []) (c + 2) / rg (R.getD k []) 0) (fun a => (a : Int)) n O[c] 1 (fun a ha => by omega)
    rw [← hno] at hl
    unfold fndS fR at *
    unfold runF f35 b35
    simp [hs1, hs2, hz, idx_outer c hcO, hc, hl, ht, hnr]
end W86
set_option linter.all false
set_option maxRecDepth 100000
set_option maxHeartbeats 2000000
/-! W26: Table.__init__. -/
namespace W86
open PySem MP I86
variable {fuel d : Nat} {st junk : St} {n : Nat} {R : List (List Int)} {I O : List Int} {m : Bool}
theorem compL_mapped {α : Type} {body : D → St → Res (Option D)} {g h : α → D} : ∀ (xs : List α) (acc : List D), (∀ x ∈ xs, body (g x) st = .ok (some (h x)) st) → compL body (xs.map g) acc st = .ok (acc ++ xs.map h) st
  | [], acc, _ => by
    unfold compL
    simp
  | x :: xs, acc, hb => by
    rw [List.map_cons]
    unfold compL
    rw [hb x List.mem_cons_self]
    dsimp only
    rw [compL_mapped xs (acc ++ [h x]) fun y hy => hb y (List.mem_cons_of_mem _ hy)]
    simp
/-- a store with an instance at its end, and what lies behind it -/
def insS (st : St) (fs : List (Nat × D)) (tl : St) : St := st ++ (.ins 0 fs :: tl)
section
variable {fs : List (Nat × D)} {tl : St}
theorem ins_at0 : (insS st fs tl)[st.length]? = some (.ins 0 fs) := by simp [insS]
theorem ins_at (k : Nat) : (insS st fs tl)[st.length + (k + 1)]? = tl[k]? := by
  unfold insS
  rw [List.getElem?_append_right (by omega)]
  have : st.length + (k + 1) - st.length = k + 1 := by omega
  rw [this]; rfl
theorem ins_len : (insS st fs tl).length = st.length + (tl.length + 1) := by simp [insS]
theorem ins_app (x : St) : insS st fs tl ++ x = insS st fs (tl ++ x) := by simp [insS]
theorem ins_cls : clsD (insS st fs tl) (.ref st.length) = some 0 := by
  unfold clsD
  dsimp only
  rw [ins_at0]
theorem ins_fld (f : Nat) : fldD (insS st fs tl) (.ref st.length) f = fs.lookup f := by
  unfold fldD
  dsimp only
  rw [ins_at0]
theorem ins_attr {c : Cfg} (f : Nat) (v : D) (h : fs.lookup f = some v) (hf : c.isF 0 f = true) : attrD c (.ref st.length) f (insS st fs tl) = .ok v (insS st fs tl) := by
  unfold attrD
  dsimp only
  rw [ins_fld, h, ins_cls]
  dsimp only
  rw [if_pos hf]
theorem ins_set {c : Cfg} {env : En} (f : Nat) (v : D) (hf : c.isF 0 f = true) (hl : fs.length < 40) : setFK c env (.ref st.length) f v (insS st fs tl) = .next env (insS st (putF f v fs) tl) := by
  unfold setFK
  rw [ins_cls]
  dsimp only
  rw [if_pos hf]
  have : setF (.ref st.length) f v (insS st fs tl) = some (insS st (putF f v fs) tl) := by
    unfold setF
    dsimp only
    rw [ins_at0]
    dsimp only
    rw [if_pos hl]
    simp [insS]
  rw [this]
end
theorem bm_append {s : St} {k : Nat} {xs : List D} (h : s[k]? = some (.lst xs)) (x : D) (hl : xs.length < lim) (m : Bool) : bmD .append m (.ref k) [x] s = .ok .non (s.set k (.lst (xs ++ [x]))) := by
  unfold bmD
  dsimp only
  rw [h]
  dsimp only
  rw [if_pos hl]
theorem bmT_ref {s : St} {k : Nat} {xs : List D} (h : s[k]? = some (.lst xs)) : bmT .append (.ref k) s = true := by
  unfold bmT lstOf
  dsimp only
  rw [h]; rfl
@[simp] theorem bi_list1_lst (xs : List D) (s : St) : biD .list1 false [.lst xs] s = .ok (.lst xs) s := id rfl
theorem sz_neg {B : Nat} {q : Rat} (h : Sz B q) : Sz B (-q) := by
  refine ⟨?_, ?_⟩
  · rw [Rat.neg_num]; exact h.1.neg
  · rw [Rat.neg_den]; exact h.2
/-- what is asked of the given numbers -/
def GivZ (cs : List Rat) (rs : List Row) : Prop := cs.length ≤ 6 ∧ rs.length ≤ 6 ∧ (∀ c ∈ cs, Sm c) ∧ ∀ r ∈ rs, r.1.length = cs.length ∧ (∀ x ∈ r.1, Sm x) ∧ Sm r.2
theorem whole_of {qs : List Rat} (hq : ∀ q ∈ qs, Sm q) (hl : qs.length ≤ 7) (s : St) : callF pk.pg chkC fuel (d + 2) 3 [.lst (qs.map qD)] s = .ok (intsL (mlow (wrow qs))) s := by
  have : qs.length * 60 ≤ 7 * 60 := Nat.mul_le_mul_right _ hl
  exact ev_wholeRow (B := 60) qs _ rfl hq (by omega) (by omega) (by omega)
theorem ev_init {cs : List Rat} {rs : List Row} (g : GivZ cs rs) : callF pk.pg chkC fuel (d + 3) 26 [.ref st.length, .lst (cs.map qD), rowsD rs] (insS st [] []) = .ok .non (tabS st cs.length (tab0 cs rs).R (tab0 cs rs).I (tab0 cs rs).O []) := by
  obtain ⟨g1, g2, g3, g4⟩ := g
  rw [call_eq 26 f26 rfl _ [.ref st.length, .lst (cs.map qD), rowsD rs] rfl]
  have hF : ∀ f, f = 10 ∨ f = 11 ∨ f = 12 ∨ f = 13 → (cfgOf pk.pg fuel (callF pk.pg chkC fuel (d + 2))).isF 0 f = true := by
    rintro f (rfl | rfl | rfl | rfl) <;> rfl
  have s1 := fun (env : En) (v : D) => ins_set (st := st) (tl := []) (fs := []) (c := cfgOf pk.pg fuel (callF pk.pg chkC fuel (d + 2))) (env := env) 11 v (hF 11 (by decide)) (by simp)
  have s2 := fun (env : En) (v w : D) (tl : St) => ins_set (st := st) (tl := tl) (fs := [(11, w)]) (c := cfgOf pk.pg fuel (callF pk.pg chkC fuel (d + 2))) (env := env) 10 v (hF 10 (by decide)) (by simp)
  have s3 := fun (env : En) (v w x : D) (tl : St) => ins_set (st := st) (tl := tl) (fs := [(11, w), (10, x)]) (c := cfgOf pk.pg fuel (callF pk.pg chkC fuel (d + 2))) (env := env) 12 v (hF 12 (by decide)) (by simp)
  have s4 := fun (env : En) (v w x y : D) (tl : St) => ins_set (st := st) (tl := tl) (fs := [(11, w), (10, x), (12, y)]) (c := cfgOf pk.pg fuel (callF pk.pg chkC fuel (d + 2))) (env := env) 13 v (hF 13 (by decide)) (by simp)
  have a2 := fun (w x : D) (tl : St) => ins_attr (st := st) (tl := tl) (fs := [(11, w), (10, x)]) (c := cfgOf pk.pg fuel (callF pk.pg chkC fuel (d + 2))) 10 x rfl (hF 10 (by decide))
  have a3 := fun (w x : D) (tl : St) => ins_attr (st := st) (tl := tl) (fs := [(11, w), (10, x)]) (c := cfgOf pk.pg fuel (callF pk.pg chkC fuel (d + 2))) 11 w rfl (hF 11 (by decide))
  have a4 := fun (w x y : D) (tl : St) => ins_attr (st := st) (tl := tl) (fs := [(11, w), (10, x), (12, y)]) (c := cfgOf pk.pg fuel (callF pk.pg chkC fuel (d + 2))) 11 w rfl (hF 11 (by decide))
  -- the rows
  have hrow : ∀ (s : St) (env : En), (∃ x0 x1 x2 x5, env = [x0, x1, x2, none, none, x5]) → compL (turnB (cfgOf pk.pg fuel (callF pk.pg chkC fuel (d + 2))) [3, 4] ce26_0 ct26_0 .nil env) (rs.map rowD) [] s = .ok ((rs.map row0).map intsL) s := by
    rintro s env ⟨x0, x1, x2, x5, rfl⟩
    rw [compL_mapped (g := rowD) (h := fun r => intsL (row0 r)) rs [] fun r hr => ?_]
    · simp
    · obtain ⟨h1, h2, h3⟩ := g4 r hr
      have hm := ev_minus' (fuel := fuel) (d := d) (st := s) 0 r.2 (sz_zero 0) h3 (by omega)
      have e0 : (0 : Rat) - r.2 = -r.2 := by grind
      rw [e0] at hm
      have hwh := whole_of (fuel := fuel) (d := d) (qs := -r.2 :: r.1) (by
        intro q hq
        rcases List.mem_cons.mp hq with rfl | hq
        · exact sz_neg h3
        · exact h2 q hq) (by simp; omega) s
      have hlen : 1 + r.1.length ≤ lim := by unfold lim; omega
      have hlen2 : r.1.length + 1 ≤ lim := by unfold lim; omega
      unfold rowD ct26_0
      rw [turn_tup rfl]
      rw [List.map_cons] at hwh
      simp [ce26_0, glob0, hm, hlen, hlen2, hwh, row0]
  have hcost : ∀ s, callF pk.pg chkC fuel (d + 2) 3 [.lst (qD 0 :: cs.map qD)] s = .ok (intsL (cost0 cs)) s := by
    intro s
    have := whole_of (fuel := fuel) (d := d) (qs := 0 :: cs) (by
        intro q hq
        rcases List.mem_cons.mp hq with rfl | hq
        · exact sz_zero 59
        · exact g3 q hq) (by simp; omega) s
    rw [List.map_cons] at this
    exact this
  have hinn : ∀ (s : St) (env : En), (∃ w x tl x1 x2 x3 x4 x5, s = insS st [(11, D.int w), (10, x)] tl ∧ w = cs.length ∧ env = [some (.ref st.length), x1, x2, x3, x4, x5]) → compL (turnB (cfgOf pk.pg fuel (callF pk.pg chkC fuel (d + 2))) [5] ce26_1 ct26_1 .nil env) (rangeL 0 rs.length) [] s = .ok ((inn0 cs.length rs.length).map D.int) s := by
    rintro s env ⟨w, x, tl, x1, x2, x3, x4, x5, rfl, rfl, rfl⟩
    rw [compI (g := fun k => ((cs.length + k : Nat) : Int)) fun j hj => ?_]
    · rfl
    · unfold ct26_1
      rw [turn_name]
      simp [ce26_1, a3]
  unfold ce26_0 ct26_0 at hrow
  unfold ce26_1 ct26_1 at hinn
  have hrow' := fun s x0 x1 x2 x5 => hrow s _ ⟨x0, x1, x2, x5, rfl⟩
  have hinn' := fun x tl x1 x2 x3 x4 x5 => hinn _ _ ⟨cs.length, x, tl, x1, x2, x3, x4, x5, rfl, rfl, rfl⟩
  have hs1 : small cs.length := by unfold small; omega
  have hs2 : small rs.length := by unfold small; omega
  have hlen : 1 + cs.length ≤ lim := by unfold lim; omega
  have hlen2 : cs.length + 1 ≤ lim := by unfold lim; omega
  have hlim : ((rs.map row0).map intsL).length < lim := by
    rw [List.length_map, List.length_map]; unfold lim; omega
  have hat := ins_at (st := st) (fs := [(11, .int cs.length), (10, .ref (st.length + 1))]) (tl := [.lst ((rs.map row0).map intsL)]) 0
  have hat' : (insS st [(11, .int cs.length), (10, .ref (st.length + 1))] [.lst ((rs.map row0).map intsL)])[st.length + 1]? = some (.lst ((rs.map row0).map intsL)) := hat
  have hap := fun m => bm_append hat' (intsL (cost0 cs)) hlim m
  have hapT := bmT_ref hat'
  have hset : (insS st [(11, .int cs.length), (10, .ref (st.length + 1))] [.lst ((rs.map row0).map intsL)]).set (st.length + 1) (.lst ((rs.map row0).map intsL ++ [intsL (cost0 cs)])) = insS st [(11, .int cs.length), (10, .ref (st.length + 1))] [.lst ((tab0 cs rs).R.map intsL)] := by
    unfold insS tab0
    rw [List.set_append_right _ _ (by omega)]
    have : st.length + 1 - st.length = 1 := by omega
    rw [this]
    simp
  rw [hset] at hap
  have hrngO : (rangeL 0 (cs.length : Int)) = (tab0 cs rs).O.map D.int := by
    show rangeL 0 (cs.length : Int) = (nm cs.length).map D.int
    unfold rangeL nm
    simp
  have w1 : ∀ s, wkD s (rowsD rs) = some (.items (rs.map rowD)) := fun _ => rfl
  have hfin : tabS st cs.length (tab0 cs rs).R (tab0 cs rs).I (tab0 cs rs).O [] = insS st [(11, .int cs.length), (10, .ref (st.length + 1)), (12, .ref (st.length + 2)), (13, .ref (st.length + 3))] [.lst ((tab0 cs rs).R.map intsL), .lst ((tab0 cs rs).I.map D.int), .lst ((tab0 cs rs).O.map D.int)] := rfl
  have hI : (tab0 cs rs).I = inn0 cs.length rs.length := rfl
  rw [hfin, hI]
  generalize (tab0 cs rs).R.map intsL = RR at *
  generalize (tab0 cs rs).O.map D.int = OO at *
  generalize (inn0 cs.length rs.length).map D.int = II at *
  generalize (rs.map row0).map intsL = R1 at *
  have q0 : (insS st [(11, .int cs.length)] [SO.lst R1]) = insS st [(11, .int cs.length)] [SO.lst R1] := rfl
  unfold runF f26 b26
  simp [glob0, s1, s2, s3, s4, a2, a3, a4, ins_app, ins_len, hrow', hinn', hcost, hs1, hs2, hlen, hlen2, hap, hapT, hrngO, w1, putF]
end W86
set_option linter.all false
set_option maxRecDepth 100000
set_option maxHeartbeats 2000000
/-! W27: Table.run. -/
namespace W86
open PySem MP I86
variable {fuel d : Nat} {st junk : St} {n : Nat} {R : List (List Int)} {I O : List Int} {m : Bool}
theorem flat_ints (l : List Int) : (l.map D.int).all flat = true := by
  rw [List.all_map, List.all_eq_true]
  intro x _; rfl
theorem any_ints (l : List Int) (v : Int) : ((l.map D.int).any fun z => eqF z (.int v)) = decide (v ∈ l) := by
  induction l with
  | nil => rfl
  | cons a l ih =>
    rw [List.map_cons, List.any_cons, ih]
    show (decide (a = v) || _) = _
    by_cases h : a = v
    · subst h; simp
    · have : ¬ v = a := fun z => h z.symm
      simp [h, this]
theorem mem_ref {s : St} {k : Nat} {l : List Int} (h : s[k]? = some (.lst (l.map D.int))) (v : Int) : cmpD s .mem (.int v) (.ref k) = some (decide (v ∈ l)) := by
  show memD s (.int v) (.ref k) = _
  unfold memD
  dsimp only
  rw [h]
  dsimp only
  rw [flat_ints, any_ints]
  rfl
theorem find_ints (l : List Int) (v : Int) (hv : v ∈ l) : ((l.map D.int).findIdx? fun z => eqF z (.int v)) = some (l.idxOf v) := by
  induction l with
  | nil => cases hv
  | cons a l ih =>
    rw [List.map_cons, List.findIdx?_cons]
    show (if (decide (a = v)) = true then some 0 else _) = _
    by_cases h : a = v
    · subst h; simp
    · have hv' : v ∈ l := (List.mem_cons.mp hv).resolve_left (fun z => h z.symm)
      rw [if_neg (by simpa using h), ih hv', List.idxOf_cons]
      have : (a == v) = false := by simpa using h
      rw [this]
      rfl
theorem index_ref {s : St} {k : Nat} {l : List Int} (h : s[k]? = some (.lst (l.map D.int))) (v : Int) (hv : v ∈ l) : bmD .index m (.ref k) [.int v] s = .ok (.int (l.idxOf v : Nat)) s := by
  unfold bmD lstOf
  dsimp only
  rw [h]
  dsimp only
  rw [flat_ints, find_ints l v hv]
  rfl
theorem bmT_idx {s : St} {k : Nat} {xs : List D} (h : s[k]? = some (.lst xs)) : bmT .index (.ref k) s = true := by
  unfold bmT lstOf
  dsimp only
  rw [h]; rfl
/-- what run returns -/
def resD : Dec → D
  | .best => .tup [.str "best", .int 0]
  | .row k => .tup [.str "row", .int k]
  | .column c => .tup [.str "column", .int c]
  | .turn _ _ => .non
def whB : Ss := match b31 with
  | .cons (.while_ _ _ b) _ => b
  | _ => .nil
theorem optI_get (o : Option Int) (env : En) : getV (some (optI o) :: env) 0 = some (optI o) := by cases o <;> rfl
/-- one time around -/
theorem run_body {E N : Nat} {e1 e2 e3 : Option D} (hE : E ≤ 1000) (hN : N = n + I.length) (t : TI N R I O) (hO : O.length = n) (hn : n ≤ 900) (hm : I.length ≤ 900) (hfu : n + 2 < fuel) (br : ∀ r ∈ R, ∀ a ∈ r, Bd E a) :
    match decT R I O with
    | .turn k c => ∃ junk' l1 l2 l3, exs (cfgOf pk.pg fuel (callF pk.pg chkC fuel (d + 2))) whB [some (.ref st.length), e1, e2, e3] (tabS st n R I O junk) = .next [some (.ref st.length), l1, l2, l3] (tabS st n (turnR R k c) (I.set k (O.getD c 0)) (O.set c (I.getD k 0)) junk')
    | dc => exs (cfgOf pk.pg fuel (callF pk.pg chkC fuel (d + 2))) whB [some (.ref st.length), e1, e2, e3] (tabS st n R I O junk) = .ret (resD dc) (tabS st n R I O junk) := by
  have hR := t.hR
  have hlen : ∀ r ∈ R, r.length = n + 2 := fun r hr => by rw [t.row r hr, hO]
  have hw := ev_wrong (fuel := fuel) (d := d + 1) (st := st) (junk := junk) (n := n) (R := R) (I := I) (O := O) (by omega) (by omega) hR hlen hO
  have hdec := decS t
  unfold decT at *
  cases q : minI (wrongL R I O) with
  | none =>
    rw [q] at hw
    dsimp only
    unfold whB b31
    simp [hw, optI, resD]
  | some v =>
    rw [q] at hw hdec
    obtain ⟨hv1, hv2⟩ := minI_some q
    dsimp only at hdec ⊢
    by_cases hI : v ∈ I
    · rw [if_pos hI] at hdec ⊢
      obtain ⟨k1, k2⟩ := getD_of_mem hI
      have hmem := mem_ref (s := tabS st n R I O junk) tab_2 v
      rw [decide_eq_true hI] at hmem
      have hidx := fun m => index_ref (m := m) (s := tabS st n R I O junk) tab_2 v hI
      have hT := bmT_idx (s := tabS st n R I O junk) (k := st.length + 2) tab_2
      have hp := ev_outP (fuel := fuel) (d := d + 1) (st := st) (junk := junk) (n := n) (R := R) (I := I) (O := O) (at' := I.idxOf v) (by omega) (by omega) (hlen _ (List.getElem_mem _)) hO
      rw [← hO] at hp
      cases q2 : outP R O O.length (I.idxOf v) with
      | none =>
        rw [q2] at hp
        rw [hO] at hp
        dsimp only
        unfold whB b31
        simp [hw, optI, optD, resD, hmem, hidx, hT, hp]
      | some c =>
        rw [q2] at hp hdec
        rw [hO] at hp
        dsimp only at hdec ⊢
        have hcn : c < n := by
          cases hdec with
          | turnI _ _ hk hc hw hl hp hs => omega
          | turnO _ _ hk hc hw hl hp hs => omega
        have hpiv : Piv R (I.idxOf v) c := by
          cases hdec with
          | turnI _ _ hk hc hw hl hp hs => unfold Piv; omega
          | turnO _ _ hk hc hw hl hp hs => unfold Piv; omega
        have eR : R.getD (I.idxOf v) [] = R[I.idxOf v]'(by omega) := by simp [show I.idxOf v < R.length by omega]
        unfold Piv at hpiv
        rw [eR] at hpiv
        obtain ⟨junk', ht⟩ := ev_turn (fuel := fuel) (d := d) (st := st) (junk := junk) (n := n) (R := R) (I := I) (O := O) (at' := I.idxOf v) (col := c) hE (by omega) k1 hO hlen hcn (by omega) (by omega) hfu br hpiv (fun r hr => by have := t.pos r hr; omega)
        refine ⟨junk', some (.int v), some (.int (I.idxOf v : Nat)), some (.int c), ?_⟩
        unfold whB b31
        simp only [show optI (some v) = .int v from rfl, show optD (some c) = .int (c : Nat) from rfl] at hw hp
        generalize turnR R (I.idxOf v) c = RR at *
        generalize I.set (I.idxOf v) (O.getD c 0) = II at *
        generalize O.set c (I.getD (I.idxOf v) 0) = OO at *
        simp [hw, hmem, hidx, hT, hp, ht]
    · rw [if_neg hI] at hdec ⊢
      have hO' : v ∈ O := (wrong_mem t hv1).resolve_left hI
      obtain ⟨k1, k2⟩ := getD_of_mem hO'
      have hmem := mem_ref (s := tabS st n R I O junk) tab_2 v
      rw [decide_eq_false hI] at hmem
      have hidx := fun m => index_ref (m := m) (s := tabS st n R I O junk) tab_3 v hO'
      have hT := bmT_idx (s := tabS st n R I O junk) (k := st.length + 3) tab_3
      have hp := ev_inP (fuel := fuel) (d := d + 1) (st := st) (junk := junk) (n := n) (R := R) (I := I) (O := O) (col := O.idxOf v) (by omega) (by omega) (fun r hr => by rw [hlen r hr]; omega)
      cases q2 : inP R I (O.idxOf v) with
      | none =>
        rw [q2] at hp
        dsimp only
        unfold whB b31
        simp [hw, optI, optD, resD, hmem, hidx, hT, hp]
      | some k =>
        rw [q2] at hp hdec
        dsimp only at hdec ⊢
        have hkI : k < I.length := by
          cases hdec with
          | turnI _ _ hk hc hw hl hp hs => omega
          | turnO _ _ hk hc hw hl hp hs => omega
        have hpiv : Piv R k (O.idxOf v) := by
          cases hdec with
          | turnI _ _ hk hc hw hl hp hs => unfold Piv; omega
          | turnO _ _ hk hc hw hl hp hs => unfold Piv; omega
        have eR : R.getD k [] = R[k]'(by omega) := by simp [show k < R.length by omega]
        unfold Piv at hpiv
        rw [eR] at hpiv
        obtain ⟨junk', ht⟩ := ev_turn (fuel := fuel) (d := d) (st := st) (junk := junk) (n := n) (R := R) (I := I) (O := O) (at' := k) (col := O.idxOf v) hE (by omega) hkI hO hlen (by omega) (by omega) (by omega) hfu br hpiv (fun r hr => by have := t.pos r hr; omega)
        refine ⟨junk', some (.int v), some (.int k), some (.int (O.idxOf v : Nat)), ?_⟩
        unfold whB b31
        simp only [show optI (some v) = .int v from rfl, show optD (some k) = .int (k : Nat) from rfl] at hw hp
        generalize turnR R k (O.idxOf v) = RR at *
        generalize I.set k (O.getD (O.idxOf v) 0) = II at *
        generalize O.set (O.idxOf v) (I.getD k 0) = OO at *
        simp [hw, hmem, hidx, hT, hp, ht]
def tabT (st : St) (t : Tb) (junk : St) : St := tabS st t.O.length t.R t.I t.O junk
theorem run_loop {E N : Nat} {s : Tb} (hs : s.ti N) (hE : E ≤ 1000) (hn : s.O.length ≤ 900) (hm : s.I.length ≤ 900) (hN : N = s.O.length + s.I.length) (hfu : s.O.length + 2 < fuel) (br : ∀ i, ∀ r ∈ (s.it i).R, ∀ a ∈ r, Bd E a) {T : Nat} (hg : ∀ i, i < T → (s.it i).goes) (hT : ¬ (s.it T).goes) (p : Pos) (kk : Nat) :
    ∀ (k i f : Nat) (junk : St) (e1 e2 e3 : Option D), i + k = T → k < f → ∃ junk', whileN (fun e s => evT (cfgOf pk.pg fuel (callF pk.pg chkC fuel (d + 2))) (.cst p kk (.bl true)) e s) (fun e s => exs (cfgOf pk.pg fuel (callF pk.pg chkC fuel (d + 2))) whB e s) f [some (.ref st.length), e1, e2, e3] (tabT st (s.it i) junk) = .ret (resD (s.it T).dec) (tabT st (s.it T) junk')
  | k, i, 0, junk, e1, e2, e3, hi, hf => absurd hf (by omega)
  | k, i, f + 1, junk, e1, e2, e3, hi, hf => by
    have K := Kin.it hs i
    have hbody := run_body (fuel := fuel) (d := d) (st := st) (junk := junk) (n := (s.it i).O.length) (R := (s.it i).R) (I := (s.it i).I) (O := (s.it i).O) (e1 := e1) (e2 := e2) (e3 := e3) hE (by rw [K.lO, K.lI]; exact hN) K.ti rfl (by rw [K.lO]; exact hn) (by rw [K.lI]; exact hm) (by rw [K.lO]; exact hfu) (br i)
    cases k with
    | zero =>
      have e : i = T := by omega
      subst e
      refine ⟨junk, ?_⟩
      unfold whileN
      have et : (evT (cfgOf pk.pg fuel (callF pk.pg chkC fuel (d + 2))) (.cst p kk (.bl true)) [some (.ref st.length), e1, e2, e3] (tabT st (s.it i) junk)) = .ok true (tabT st (s.it i) junk) := by simp
      rw [et, ok_bindS]
      rw [if_pos rfl]
      have hd : (s.it i).dec = decT (s.it i).R (s.it i).I (s.it i).O := rfl
      rw [hd]
      cases q : decT (s.it i).R (s.it i).I (s.it i).O with
      | turn k c => exact absurd ⟨k, c, q⟩ hT
      | best =>
        rw [q] at hbody
        dsimp only at hbody
        unfold tabT
        rw [hbody]
      | row k =>
        rw [q] at hbody
        dsimp only at hbody
        unfold tabT
        rw [hbody]
      | column k =>
        rw [q] at hbody
        dsimp only at hbody
        unfold tabT
        rw [hbody]
    | succ k =>
      obtain ⟨a, c, q⟩ := hg i (by omega)
      have q' : decT (s.it i).R (s.it i).I (s.it i).O = .turn a c := q
      rw [q'] at hbody
      dsimp only at hbody
      obtain ⟨junk', l1, l2, l3, hb⟩ := hbody
      have hnx : s.it (i + 1) = (s.it i).tn a c := by
        show (s.it i).next = _
        unfold Tb.next
        rw [q]
      obtain ⟨junk2, ih⟩ := run_loop hs hE hn hm hN hfu br hg hT p kk k (i + 1) f junk' l1 l2 l3 (by omega) (by omega)
      refine ⟨junk2, ?_⟩
      unfold whileN
      have et : (evT (cfgOf pk.pg fuel (callF pk.pg chkC fuel (d + 2))) (.cst p kk (.bl true)) [some (.ref st.length), e1, e2, e3] (tabT st (s.it i) junk)) = .ok true (tabT st (s.it i) junk) := by simp
      rw [et, ok_bindS, if_pos rfl]
      have e9 : tabT st (s.it i) junk = tabS st (s.it i).O.length (s.it i).R (s.it i).I (s.it i).O junk := rfl
      rw [e9, hb]
      dsimp only
      have e10 : tabT st (s.it (i + 1)) junk' = tabS st (s.it i).O.length (turnR (s.it i).R a c) ((s.it i).I.set a ((s.it i).O.getD c 0)) ((s.it i).O.set c ((s.it i).I.getD a 0)) junk' := by
        rw [hnx]
        unfold tabT Tb.tn
        dsimp only
        rw [List.length_set]
      rw [← e10]
      exact ih
theorem ev_run {E N : Nat} {s : Tb} (hs : s.ti N) (hE : E ≤ 1000) (hn : s.O.length ≤ 900) (hm : s.I.length ≤ 900) (hN : N = s.O.length + s.I.length) (hfu : s.O.length + 2 < fuel) (hfu2 : 2 ^ N < fuel) (br : ∀ i, ∀ r ∈ (s.it i).R, ∀ a ∈ r, Bd E a) :
    ∃ T junk', ¬ (s.it T).goes ∧ callF pk.pg chkC fuel (d + 3) 31 [.ref st.length] (tabT st s []) = .ok (resD (s.it T).dec) (tabT st (s.it T) junk') := by
  obtain ⟨T, h1, h2, h3⟩ := ends hs
  obtain ⟨junk', hl⟩ := run_loop (fuel := fuel) (d := d) (st := st) hs hE hn hm hN hfu br h2 h3 ⟨86, 14, 86, 18⟩ 0 T 0 fuel [] none none none (by omega) (by omega)
  refine ⟨T, junk', h3, ?_⟩
  rw [call_eq 31 f31 rfl _ [.ref st.length] rfl]
  have e0 : s.it 0 = s := rfl
  rw [e0] at hl
  have hrun : exs (cfgOf pk.pg fuel (callF pk.pg chkC fuel (d + 2))) b31 [some (.ref st.length), none, none, none] (tabT st s []) = .ret (resD (s.it T).dec) (tabT st (s.it T) junk') := by
    have e : b31 = .cons (.while_ ⟨86, 8, 100, 30⟩ (.cst ⟨86, 14, 86, 18⟩ 0 (.bl true)) whB) .nil := rfl
    rw [e, exs_cons, ex_while, cfg_fuel, hl]
    rfl
  unfold runF
  show (match exs (cfgOf pk.pg fuel (callF pk.pg chkC fuel (d + 2))) b31 [some (.ref st.length), none, none, none] (tabT st s []) with
    | .next _ s1 => fin chkC f31.pure .non (tabT st s []) s1
    | .ret d s' => fin chkC f31.pure d (tabT st s []) s'
    | .exc k xs _ s' => if f31.pure then (if chkC (s'.take (tabT st s []).length) (tabT st s []) && nrs xs then .exc k xs (tabT st s []) else .bad) else .exc k xs s'
    | _ => .bad) = _
  rw [hrun]
  rfl
end W86
set_option linter.all false
set_option maxRecDepth 100000
set_option maxHeartbeats 2000000
/-! W28: sizes of a run. -/
namespace W86
open PySem MP I86
variable {fuel d : Nat} {st junk : St} {n : Nat} {R : List (List Int)} {I O : List Int} {m : Bool}
/-- given numbers have small bottoms -/
def GivT (cs : List Rat) (rs : List Row) : Prop := (∀ c ∈ cs, c.den ∣ 12) ∧ ∀ r ∈ rs, (∀ x ∈ r.1, x.den ∣ 12) ∧ r.2.den ∣ 12
theorem lcmF_low {L : Nat} : ∀ (qs : List Rat) (f : Nat), (∀ q ∈ qs, q.den ∣ L) → f ∣ L → lcmF qs f ∣ L
  | [], f, _, h => h
  | q :: qs, f, hq, h => by
    unfold lcmF
    refine lcmF_low qs _ (fun r hr => hq r (List.mem_cons_of_mem _ hr)) ?_
    have := Nat.lcm_dvd h (hq q List.mem_cons_self)
    unfold Nat.lcm at this
    rwa [Nat.div_mul_right_comm (Nat.gcd_dvd_left ..)]
theorem wrow_bd {qs : List Rat} (hq : ∀ q ∈ qs, Sm q) (hd : ∀ q ∈ qs, q.den ∣ 12) : ∀ a ∈ wrow qs, Bd 64 a := by
  have hL := lcmF_low qs 1 hd (Nat.one_dvd _)
  have hle : lcmF qs 1 ≤ 12 := Nat.le_of_dvd (by decide) hL
  intro a ha
  unfold wrow at ha
  rcases List.mem_cons.mp ha with rfl | ha
  · refine nat_bd (Nat.lt_of_le_of_lt hle (by decide))
  · obtain ⟨q, hq', rfl⟩ := List.mem_map.mp ha
    have h1 := (hq q hq').1
    have h2 : Bd 4 ((lcmF qs 1 / q.den : Nat) : Int) := nat_bd (by
      have := Nat.div_le_self (lcmF qs 1) q.den
      omega)
    exact h1.mul h2
theorem tab0_bd {cs : List Rat} {rs : List Row} (g : GivZ cs rs) (t : GivT cs rs) : ∀ r ∈ (tab0 cs rs).R, ∀ a ∈ r, a.natAbs ≤ 2 ^ 64 := by
  intro r hr a ha
  obtain ⟨g1, g2, g3, g4⟩ := g
  rcases List.mem_append.mp hr with h | h
  · obtain ⟨q, hq, rfl⟩ := List.mem_map.mp h
    have := mlow_bd (E := 64) (wrow_bd (qs := -q.2 :: q.1) (by
      intro x hx
      rcases List.mem_cons.mp hx with rfl | hx
      · exact sz_neg (g4 q hq).2.2
      · exact (g4 q hq).2.1 x hx) (by
      intro x hx
      rcases List.mem_cons.mp hx with rfl | hx
      · rw [Rat.neg_den]; exact (t.2 q hq).2
      · exact (t.2 q hq).1 x hx)) a ha
    exact Nat.le_of_lt this
  · have e : r = cost0 cs := by simpa using h
    rw [e] at ha
    have := mlow_bd (E := 64) (wrow_bd (qs := 0 :: cs) (by
      intro x hx
      rcases List.mem_cons.mp hx with rfl | hx
      · exact sz_zero 59
      · exact g3 x hx) (by
      intro x hx
      rcases List.mem_cons.mp hx with rfl | hx
      · exact Nat.one_dvd _
      · exact t.1 x hx)) a ha
    exact Nat.le_of_lt this
theorem it_bd {cs : List Rat} {rs : List Row} (g : GivZ cs rs) (t : GivT cs rs) (i : Nat) : ∀ r ∈ ((tab0 cs rs).it i).R, ∀ a ∈ r, Bd 477 a := by
  intro r hr a ha
  have hs := ti0 (cs := cs) (rs := rs) fun r hr => (g.2.2.2 r hr).1
  have h := size hs (Kin.it hs i) (M := 2 ^ 64) (Nat.two_pow_pos _) (tab0_bd g t) r hr a ha
  have hl : (tab0 cs rs).R.length = rs.length + 1 := by simp [tab0]
  rw [hl] at h
  have h6 := g.2.1
  have hb : (rs.length + 1) * (2 * 2 ^ 64) ≤ 2 ^ 68 := by
    have : (rs.length + 1) * (2 * 2 ^ 64) ≤ 7 * (2 * 2 ^ 64) := Nat.mul_le_mul_right _ (by omega)
    exact Nat.le_trans this (by decide)
  have h1 : ((rs.length + 1) * (2 * 2 ^ 64)) ^ (rs.length + 1) ≤ (2 ^ 68) ^ (rs.length + 1) := Nat.pow_le_pow_left hb _
  have h2 : (2 ^ 68) ^ (rs.length + 1) ≤ (2 ^ 68) ^ 7 := Nat.pow_le_pow_right (by decide) (by omega)
  have h3 : (2 ^ 68) ^ 7 < 2 ^ 477 := by decide +kernel
  unfold Bd
  omega
theorem getD_bd {E : Nat} (hE : 0 < E) {t : Tb} (h : ∀ r ∈ t.R, ∀ a ∈ r, Bd E a) (k j : Nat) : Bd E ((t.R.getD k []).getD j 0) := by
  have z : Bd E 0 := by
    unfold Bd
    exact Nat.two_pow_pos _
  by_cases h0 : (t.R.getD k []).getD j 0 = 0
  · rw [h0]; exact z
  · have hm := getD_mem h0
    by_cases hk : k < t.R.length
    · have e : t.R.getD k [] = t.R[k] := by simp [hk]
      rw [e] at hm ⊢
      exact h _ (List.getElem_mem hk) _ hm
    · have e : t.R.getD k [] = [] := by
        rw [List.getD_eq_getElem?_getD, List.getElem?_eq_none (by omega)]; rfl
      rw [e] at hm; cases hm
theorem div_sz {E : Nat} (hE : 0 < E) {a b : Int} (ha : Bd E a) (hb : Bd E b) : Sz E (Rat.divInt a b) := by
  by_cases h : b = 0
  · rw [h, Rat.divInt_zero]
    have : E = (E - 1) + 1 := by omega
    rw [this]
    exact sz_zero _
  · exact sz_divInt h ha hb
theorem al_sz {E : Nat} (hE : 0 < E) {t : Tb} (h : ∀ r ∈ t.R, ∀ a ∈ r, Bd E a) (v w : Int) : Sz E ((sOf t.R t.I t.O).al v w) := by
  show Sz E (rg _ _ / rg _ 0)
  rw [← rg_div]
  exact div_sz hE (getD_bd hE h _ _) (getD_bd hE h _ _)
theorem val_sz {E : Nat} (hE : 0 < E) {t : Tb} (h : ∀ r ∈ t.R, ∀ a ∈ r, Bd E a) : Sz E (valQ t) := by
  unfold valQ
  rw [← rg_div]
  exact div_sz hE (getD_bd hE h _ _) (getD_bd hE h _ _)
theorem int_sz {E : Nat} (hE : 0 < E) {i : Int} (h : Bd E i) : Sz E (i : Rat) := by
  refine ⟨h, ?_⟩
  show Bd E ((1 : Nat) : Int)
  refine nat_bd ?_
  exact Nat.one_lt_two_pow (by omega)
theorem cf_sz {E : Nat} (hE : 0 < E) {t : Tb} (h : ∀ r ∈ t.R, ∀ a ∈ r, Bd E a) (k : Nat) (w : Int) : Sz (E + 1) ((cf t.R t.I t.O k w : Int) : Rat) := by
  refine int_sz (by omega) ?_
  unfold cf
  refine Bd.sub ?_ (getD_bd hE h _ _)
  split
  · exact getD_bd hE h _ _
  · unfold Bd; exact Nat.two_pow_pos _
theorem one_sz {E : Nat} (hE : 0 < E) : Sz E (1 : Rat) := int_sz hE (i := 1) (by unfold Bd; exact Nat.one_lt_two_pow (by omega))
/-- the answers' kinds -/
inductive Ans where
  | best (v : Rat) (xs ys : List Rat) | bar (ys : List Rat) | ray (xs ws : List Rat)
def Ans.D : Ans → MP.D
  | .best v xs ys => .tup [.str "best", qD v, .tup (xs.map qD), .tup (ys.map qD)]
  | .bar ys => .tup [.str "bar", .tup (ys.map qD)]
  | .ray xs ws => .tup [.str "ray", .tup (xs.map qD), .tup (ws.map qD)]
def Ans.Ok (cs : List Rat) (rs : List Row) : Ans → Prop
  | .best v xs ys => Ent false rs cs.length xs ∧ Pri cs rs ys ∧ Sz 3400 v ∧ dotR cs xs = v ∧ dotR ys (bnds rs) = v
  | .bar ys => Pri (zrs cs.length) rs ys ∧ 0 < dotR ys (bnds rs)
  | .ray xs ws => Ent false rs cs.length xs ∧ Ent true rs cs.length ws ∧ dotR cs ws < 0
theorem zero_giv {cs : List Rat} {rs : List Row} (g : GivZ cs rs) : GivZ (zrs cs.length) rs := by
  obtain ⟨g1, g2, g3, g4⟩ := g
  have e : (zrs cs.length).length = cs.length := List.length_replicate
  refine ⟨by rw [e]; exact g1, g2, fun c hc => ?_, fun r hr => ?_⟩
  · rw [List.eq_of_mem_replicate hc]; exact sz_zero 59
  · rw [e]; exact g4 r hr
theorem zero_givT {cs : List Rat} {rs : List Row} (g : GivT cs rs) : GivT (zrs cs.length) rs := ⟨fun c hc => by
    rw [List.eq_of_mem_replicate hc]; exact Nat.one_dvd _, g.2⟩
end W86
set_option linter.all false
set_option maxRecDepth 100000
set_option maxHeartbeats 4000000
/-! W29: solve. -/
namespace W86
open PySem MP I86
variable {fuel d : Nat} {st junk : St} {n : Nat} {R : List (List Int)} {I O : List Int} {m : Bool}
section
variable {call : Nat → List D → St → Res D}
@[simp] theorem meth_6 : findM (cfgOf pk.pg fuel call) (.ref st.length) 6 (tabS st n R I O junk) = some 32 := findM_tab 6 32 rfl rfl
@[simp] theorem meth_7 : findM (cfgOf pk.pg fuel call) (.ref st.length) 7 (tabS st n R I O junk) = some 33 := findM_tab 7 33 rfl rfl
@[simp] theorem meth_8 : findM (cfgOf pk.pg fuel call) (.ref st.length) 8 (tabS st n R I O junk) = some 34 := findM_tab 8 34 rfl rfl
@[simp] theorem meth_9 : findM (cfgOf pk.pg fuel call) (.ref st.length) 9 (tabS st n R I O junk) = some 35 := findM_tab 9 35 rfl rfl
end
theorem fin_tab0 (dd : D) : fin chkC true dd st (tabS st n R I O junk) = if nr dd = true then .ok dd st else .bad := by
  unfold tabS
  exact fin_app ..
theorem fin_tab2 (dd : D) {n' : Nat} {R' : List (List Int)} {I' O' : List Int} {junk' : St} : fin chkC true dd st (tabS (tabS st n R I O junk) n' R' I' O' junk') = if nr dd = true then .ok dd st else .bad := by
  unfold tabS
  rw [List.append_assoc]
  exact fin_app ..
theorem make_tab {cs : List Rat} {rs : List Row} (g : GivZ cs rs) : makeD (cfgOf pk.pg fuel (callF pk.pg chkC fuel (d + 3))) 0 [.lst (cs.map qD), rowsD rs] st = .ok (.ref st.length) (tabT st (tab0 cs rs) []) := by
  unfold makeD
  have e : (cfgOf pk.pg fuel (callF pk.pg chkC fuel (d + 3))).init 0 = some 26 := rfl
  have e2 : (cfgOf pk.pg fuel (callF pk.pg chkC fuel (d + 3))).frozen 0 = false := rfl
  have e3 : st ++ [.ins 0 []] = insS st [] [] := rfl
  rw [e, e3]
  dsimp only
  rw [cfg_call, ev_init g, ok_bind]
  dsimp only
  rw [e2, if_neg (by decide)]
  have : (tab0 cs rs).O.length = cs.length := by simp [tab0, nm]
  unfold tabT
  rw [this]
/-- a run from the first table -/
structure Ran (cs : List Rat) (rs : List Row) (t : Tb) : Prop where
  kin : Kin (cs.length + rs.length) (tab0 cs rs) t
  bd : ∀ r ∈ t.R, ∀ a ∈ r, Bd 477 a
  stop : ¬ t.goes
theorem Ran.lens {cs : List Rat} {rs : List Row} {t : Tb} (h : Ran cs rs t) : t.O.length = cs.length ∧ t.I.length = rs.length ∧ t.R.length = rs.length + 1 := by
  have h1 := h.kin.lO
  have h2 := h.kin.lI
  have h3 := h.kin.lR
  simp [tab0, nm, inn0] at h1 h2 h3
  exact ⟨h1, h2, h3⟩
theorem run_tab {cs : List Rat} {rs : List Row} (g : GivZ cs rs) (t : GivT cs rs) (hfu : 5000 < fuel) : ∃ T junk', Ran cs rs T ∧ callF pk.pg chkC fuel (d + 3) 31 [.ref st.length] (tabT st (tab0 cs rs) []) = .ok (resD T.dec) (tabT st T junk') := by
  have hs := ti0 (cs := cs) (rs := rs) fun r hr => (g.2.2.2 r hr).1
  have l1 : (tab0 cs rs).O.length = cs.length := by simp [tab0, nm]
  have l2 : (tab0 cs rs).I.length = rs.length := by simp [tab0, inn0]
  have g1 := g.1
  have g2 := g.2.1
  have hp : 2 ^ (cs.length + rs.length) ≤ 2 ^ 12 := Nat.pow_le_pow_right (by decide) (by omega)
  have e12 : 2 ^ 12 = 4096 := by decide
  obtain ⟨T, junk', h1, h2⟩ := ev_run (fuel := fuel) (d := d) (st := st) hs (E := 477) (by omega) (by omega) (by omega) (by omega) (by omega) (by omega) (it_bd g t)
  exact ⟨_, junk', ⟨Kin.it hs T, it_bd g t T, h1⟩, h2⟩
theorem Ran.dec {cs : List Rat} {rs : List Row} {t : Tb} (h : Ran cs rs t) : DecS t.R t.I t.O t.dec := decS h.kin.ti
section
variable {cs : List Rat} {rs : List Row} {T : Tb}
theorem Ran.point (h : Ran cs rs T) (g : GivZ cs rs) : callF pk.pg chkC fuel (d + 3) 32 [.ref st.length] (tabT st T junk) = .ok (.tup ((ptQ T cs.length).map qD)) (tabT st T junk) := by
  obtain ⟨l1, l2, l3⟩ := h.lens
  have g1 := g.1
  have g2 := g.2.1
  have ht := h.kin.ti
  unfold Tb.ti at ht
  rw [← l1, ← l2] at ht
  have := ev_point (fuel := fuel) (d := d + 1) (st := st) (junk := junk) (n := T.O.length) (R := T.R) (I := T.I) (O := T.O) (E := 477) (by omega) ht rfl (by omega) (by omega) h.bd
  rw [← l1]
  exact this
theorem Ran.prices (h : Ran cs rs T) (g : GivZ cs rs) : callF pk.pg chkC fuel (d + 3) 33 [.ref st.length] (tabT st T junk) = .ok (.tup ((prQ T cs.length rs.length).map qD)) (tabT st T junk) := by
  obtain ⟨l1, l2, l3⟩ := h.lens
  have g1 := g.1
  have g2 := g.2.1
  have ht := h.kin.ti
  unfold Tb.ti at ht
  rw [← l1, ← l2] at ht
  have := ev_pricesT (fuel := fuel) (d := d + 1) (st := st) (junk := junk) (n := T.O.length) (R := T.R) (I := T.I) (O := T.O) (E := 477) (by omega) ht rfl (by omega) (by omega) h.bd
  rw [← l1, ← l2]
  exact this
theorem Ran.bar (h : Ran cs rs T) (g : GivZ cs rs) {k : Nat} (hk : k < T.I.length) : callF pk.pg chkC fuel (d + 3) 34 [.ref st.length, .int k] (tabT st T junk) = .ok (.tup ((barQ T k cs.length rs.length).map qD)) (tabT st T junk) := by
  obtain ⟨l1, l2, l3⟩ := h.lens
  have g1 := g.1
  have g2 := g.2.1
  have ht := h.kin.ti
  unfold Tb.ti at ht
  rw [← l1, ← l2] at ht
  have := ev_bar (fuel := fuel) (d := d + 2) (st := st) (junk := junk) (n := T.O.length) (R := T.R) (I := T.I) (O := T.O) ht rfl (by omega) (by omega) hk
  rw [← l1, ← l2]
  exact this
theorem Ran.dirn (h : Ran cs rs T) (g : GivZ cs rs) {c : Nat} (hc : c < T.O.length) : callF pk.pg chkC fuel (d + 3) 35 [.ref st.length, .int c] (tabT st T junk) = .ok (.tup ((dirQ T c cs.length).map qD)) (tabT st T junk) := by
  obtain ⟨l1, l2, l3⟩ := h.lens
  have g1 := g.1
  have g2 := g.2.1
  have ht := h.kin.ti
  unfold Tb.ti at ht
  rw [← l1, ← l2] at ht
  have := ev_dir (fuel := fuel) (d := d + 1) (st := st) (junk := junk) (n := T.O.length) (R := T.R) (I := T.I) (O := T.O) (E := 477) (by omega) ht rfl (by omega) (by omega) hc h.bd
  rw [← l1]
  exact this
theorem Ran.ptLg (h : Ran cs rs T) : ∀ q ∈ ptQ T cs.length, Lg q := by
  intro q hq
  obtain ⟨j, _, rfl⟩ := List.mem_map.mp hq
  exact (al_sz (by omega) h.bd _ _).mono (by omega)
theorem Ran.prLg (h : Ran cs rs T) : ∀ q ∈ prQ T cs.length rs.length, Lg q := by
  intro q hq
  obtain ⟨j, _, rfl⟩ := List.mem_map.mp hq
  exact (al_sz (by omega) h.bd _ _).mono (by omega)
theorem Ran.barLg (h : Ran cs rs T) (k : Nat) : ∀ q ∈ barQ T k cs.length rs.length, Lg q := by
  intro q hq
  obtain ⟨j, _, rfl⟩ := List.mem_map.mp hq
  exact (cf_sz (by omega) h.bd _ _).mono (by omega)
theorem Ran.dirLg (h : Ran cs rs T) (c : Nat) : ∀ q ∈ dirQ T c cs.length, Lg q := by
  intro q hq
  obtain ⟨j, _, rfl⟩ := List.mem_map.mp hq
  split
  · exact one_sz (by omega)
  · exact (al_sz (by omega) h.bd _ _).mono (by omega)
theorem ev_solve (g : GivZ cs rs) (t : GivT cs rs) (hfu : 5000 < fuel) : ∃ a : Ans, a.Ok cs rs ∧ callF pk.pg chkC fuel (d + 4) 4 [.lst (cs.map qD), rowsD rs] st = .ok a.D st := by
  have hw : ∀ r ∈ rs, r.1.length = cs.length := fun r hr => (g.2.2.2 r hr).1
  obtain ⟨T, junk, hT, hrun⟩ := run_tab (fuel := fuel) (d := d) (st := st) g t hfu
  have hmk := make_tab (fuel := fuel) (d := d) (st := st) g
  obtain ⟨l1, l2, l3⟩ := hT.lens
  have hdec := hT.dec
  have c4 := call_eq (fuel := fuel) (d := d + 3) (st := st) 4 f4 rfl [.lst (cs.map qD), rowsD rs] [.lst (cs.map qD), rowsD rs] rfl
  have n1 : ("row" : Str) ≠ "best" := by decide
  have n2 : ("column" : Str) ≠ "best" := by decide
  have n3 : ("column" : Str) ≠ "row" := by decide
  have n4 : ("best" : Str) ≠ "row" := by decide
  cases q : T.dec with
  | turn k c => exact absurd ⟨k, c, q⟩ hT.stop
  | best =>
    rw [q] at hrun hdec
    have hwr : wrongL T.R T.I T.O = [] := by cases hdec; assumption
    obtain ⟨p1, p2⟩ := point_ok hw hT.kin hwr hT.ptLg
    obtain ⟨p3, p4⟩ := prices_ok hw hT.kin hwr hT.prLg
    refine ⟨.best (valQ T) (ptQ T cs.length) (prQ T cs.length rs.length), ⟨p1, p3, (val_sz (by omega) hT.bd).mono (by omega), p2, p4⟩, ?_⟩
    have hpt := hT.point (fuel := fuel) (d := d) (st := st) (junk := junk) g
    have hpr := hT.prices (fuel := fuel) (d := d) (st := st) (junk := junk) g
    have hRl : 0 < T.R.length := by omega
    have hla : idxD (tabT st T junk) (.ref (st.length + 1)) (.int (-1)) = some (intsL (T.R[T.R.length - 1]'(by omega))) := idx_last hRl
    have hmL := List.getElem_mem (show T.R.length - 1 < T.R.length by omega)
    have hlen := hT.kin.ti.row _ hmL
    have hpos := hT.kin.ti.pos _ hmL
    have eL : T.R.getD (T.R.length - 1) [] = T.R[T.R.length - 1] := by simp [show T.R.length - 1 < T.R.length by omega]
    generalize hLst : T.R[T.R.length - 1]'(by omega) = L at *
    have h0 : 0 < L.length := by omega
    have h1 : 1 < L.length := by omega
    have x1 := idx_ints L 1 h1
    have x0 := idx_ints L 0 h0
    have e10 : ((1 : Nat) : Int) = 1 := rfl
    have e00 : ((0 : Nat) : Int) = 0 := rfl
    rw [e10] at x1
    rw [e00] at x0
    have g1 : L.getD 1 0 = L[1] := by simp [h1]
    have g0 : L.getD 0 0 = L[0] := by simp [h0]
    rw [g0] at hpos
    have hrat := fun s => ev_ratio' (fuel := fuel) (d := d + 2) (st := s) L[1] L[0] (by omega) (hT.bd _ hmL _ (List.getElem_mem _)) (by omega)
    have hval : Rat.divInt L[1] L[0] = valQ T := by
      unfold valQ
      rw [← rg_div, eL, g1, g0]
    have hn1 : nrs ((ptQ T cs.length).map qD) = true := nrs_map _ nr_qD _
    have hn2 : nrs ((prQ T cs.length rs.length).map qD) = true := nrs_map _ nr_qD _
    rw [c4]
    unfold tabT at *
    unfold runF f4 b4
    simp [hmk, hrun, resD, cmp_eq_str, hla, x1, x0, hrat, hval, hpt, hpr, fin_tab0, hn1, hn2, Ans.D]
  | row k =>
    rw [q] at hrun hdec
    have hdr : k < T.I.length ∧ (T.R.getD k []).getD 1 0 < 0 ∧ ∀ c, c < T.O.length → (T.R.getD k []).getD (c + 2) 0 ≤ 0 := by
      cases hdec
      exact ⟨by assumption, by assumption, by assumption⟩
    obtain ⟨hk, hb, hr⟩ := hdr
    refine ⟨.bar (barQ T k cs.length rs.length), bar_ok hw hT.kin hk hb hr (hT.barLg k), ?_⟩
    have hbr := hT.bar (fuel := fuel) (d := d) (st := st) (junk := junk) g hk
    have hn1 : nrs ((barQ T k cs.length rs.length).map qD) = true := nrs_map _ nr_qD _
    rw [c4]
    unfold tabT at *
    unfold runF f4 b4
    simp [hmk, hrun, resD, cmp_eq_str, n1, hbr, fin_tab0, hn1, Ans.D]
  | column c =>
    rw [q] at hrun hdec
    have hdr : c < T.O.length ∧ (T.R.getD (T.R.length - 1) []).getD (c + 2) 0 < 0 ∧ ∀ k, k < T.I.length → 0 ≤ (T.R.getD k []).getD (c + 2) 0 := by
      cases hdec
      exact ⟨by assumption, by assumption, by assumption⟩
    obtain ⟨hc, hb, hr⟩ := hdr
    obtain ⟨d1, d2⟩ := dir_ok hw hT.kin hc hb hr (hT.dirLg c)
    have hdn := hT.dirn (fuel := fuel) (d := d) (st := st) (junk := junk) g hc
    have g' := zero_giv g
    have t' := zero_givT t
    have hzl : (zrs cs.length).length = cs.length := List.length_replicate
    have hw' : ∀ r ∈ rs, r.1.length = (zrs cs.length).length := by rw [hzl]; exact hw
    obtain ⟨T', junk', hT', hrun'⟩ := run_tab (fuel := fuel) (d := d) (st := tabT st T junk) g' t' hfu
    have hmk' := make_tab (fuel := fuel) (d := d) (st := tabT st T junk) g'
    have hdec' := hT'.dec
    have hzs : ∀ (env : En) (p1 p2 : Pos) (s : St), (∃ x0 x1 x2 x3 x4 x5 x6 x7, env = [x0, x1, x2, x3, x4, x5, x6, x7]) → compL (turnB (cfgOf pk.pg fuel (callF pk.pg chkC fuel (d + 3))) [7] (.glob p1 0) (.name p2 7) .nil env) (cs.map qD) [] s = .ok ((zrs cs.length).map qD) s := by
      rintro env p1 p2 s ⟨x0, x1, x2, x3, x4, x5, x6, x7, rfl⟩
      rw [compL_mapped (g := qD) (h := fun _ => qD 0) cs [] fun r hr => ?_]
      · simp [zrs, List.map_const']
      · rw [turn_name]
        simp [glob0]
    have hzs' := fun p1 p2 s x0 x1 x2 x3 x4 x5 x6 x7 => hzs _ p1 p2 s ⟨x0, x1, x2, x3, x4, x5, x6, x7, rfl⟩
    cases q' : T'.dec with
    | turn k c => exact absurd ⟨k, c, q'⟩ hT'.stop
    | best =>
      rw [q'] at hrun' hdec'
      have hwr : wrongL T'.R T'.I T'.O = [] := by cases hdec'; assumption
      obtain ⟨p1, p2⟩ := point_ok hw' hT'.kin hwr hT'.ptLg
      rw [hzl] at p1
      refine ⟨.ray (ptQ T' cs.length) (dirQ T c cs.length), ⟨p1, d1, d2⟩, ?_⟩
      have hpt := hT'.point (fuel := fuel) (d := d) (st := tabT st T junk) (junk := junk') g'
      rw [hzl] at hpt
      have hn1 : nrs ((ptQ T' cs.length).map qD) = true := nrs_map _ nr_qD _
      have hn2 : nrs ((dirQ T c cs.length).map qD) = true := nrs_map _ nr_qD _
      rw [c4]
      simp only [tabT] at *
      unfold runF f4 b4
      simp only [resD] at hrun hrun'
      simp [-tab_len, hmk, hrun, resD, cmp_eq_str, n2, n3, n4, hdn, wk_lst, hzs', hmk', hrun', hpt, fin_tab2, hn1, hn2, Ans.D]
    | row k =>
      rw [q'] at hrun' hdec'
      have hdr : k < T'.I.length ∧ (T'.R.getD k []).getD 1 0 < 0 ∧ ∀ c, c < T'.O.length → (T'.R.getD k []).getD (c + 2) 0 ≤ 0 := by
        cases hdec'
        exact ⟨by assumption, by assumption, by assumption⟩
      obtain ⟨hk, hb, hr⟩ := hdr
      have bo := bar_ok hw' hT'.kin hk hb hr (hT'.barLg k)
      rw [hzl] at bo
      refine ⟨.bar (barQ T' k cs.length rs.length), bo, ?_⟩
      have hbr := hT'.bar (fuel := fuel) (d := d) (st := tabT st T junk) (junk := junk') g' hk
      rw [hzl] at hbr
      have hn1 : nrs ((barQ T' k cs.length rs.length).map qD) = true := nrs_map _ nr_qD _
      rw [c4]
      simp only [tabT] at *
      unfold runF f4 b4
      simp only [resD] at hrun hrun'
      simp [-tab_len, hmk, hrun, resD, cmp_eq_str, n1, n2, n3, hdn, wk_lst, hzs', hmk', hrun', hbr, fin_tab2, hn1, Ans.D]
    | column c' =>
      rw [q'] at hdec'
      have hdr : c' < T'.O.length ∧ (T'.R.getD (T'.R.length - 1) []).getD (c' + 2) 0 < 0 := by
        cases hdec'
        exact ⟨by assumption, by assumption⟩
      exact (no_col hw' (fun xs => dot_zrs _ xs) hT'.kin hdr.1 hdr.2).elim
end
end W86
set_option linter.all false
set_option maxRecDepth 100000
set_option maxHeartbeats 1000000
/-! W30: sixths; which answers shut out which. -/
namespace W86
open PySem MP I86
theorem Six.add {p q : Rat} (h : Six p) (h' : Six q) : Six (p + q) := by
  obtain ⟨i, hi⟩ := h
  obtain ⟨j, hj⟩ := h'
  exact ⟨i + j, by rw [Rat.intCast_add, ← hi, ← hj]; grind⟩
theorem Six.neg {p : Rat} (h : Six p) : Six (-p) := by
  obtain ⟨i, hi⟩ := h
  exact ⟨-i, by rw [Rat.intCast_neg, ← hi]; grind⟩
theorem Six.imul (k : Int) {q : Rat} (h : Six q) : Six ((k : Rat) * q) := by
  obtain ⟨j, hj⟩ := h
  exact ⟨k * j, by rw [Rat.intCast_mul, ← hj]; grind⟩
theorem Six.int (k : Int) : Six (k : Rat) := ⟨6 * k, by rw [Rat.intCast_mul]; rfl⟩
theorem Six.half (k : Int) : Six (Rat.divInt k 2) := six_div (by omega) (by omega)
theorem Six.zero : Six 0 := Six.int 0
/-- twelve times it is an integer -/
def Twe (q : Rat) : Prop := ∃ i : Int, (12 : Rat) * q = (i : Rat)
theorem Six.twe {q : Rat} (h : Six q) : Twe q := by
  obtain ⟨i, hi⟩ := h
  refine ⟨2 * i, ?_⟩
  rw [Rat.intCast_mul, ← hi]
  have : ((2 : Int) : Rat) = 2 := rfl
  rw [this]; grind
theorem Twe.add {p q : Rat} (h : Twe p) (h' : Twe q) : Twe (p + q) := by
  obtain ⟨i, hi⟩ := h
  obtain ⟨j, hj⟩ := h'
  exact ⟨i + j, by rw [Rat.intCast_add, ← hi, ← hj]; grind⟩
theorem Twe.imul (k : Int) {q : Rat} (h : Twe q) : Twe ((k : Rat) * q) := by
  obtain ⟨j, hj⟩ := h
  exact ⟨k * j, by rw [Rat.intCast_mul, ← hj]; grind⟩
theorem Twe.den {q : Rat} (h : Twe q) : q.den ∣ 12 := by
  obtain ⟨i, hi⟩ := h
  have e : q = Rat.divInt i 12 := by
    rw [Rat.divInt_eq_div, ← hi]
    have : ((12 : Int) : Rat) = 12 := rfl
    rw [this]; grind
  rw [e, Rat.den_divInt, if_neg (by decide)]
  exact Nat.div_dvd_of_dvd (by
    show Int.gcd 12 i ∣ 12
    have := Int.gcd_dvd_left 12 i
    exact Int.natCast_dvd_natCast.mp this)
/-- sums of products of integers and sixths -/
theorem dot_six : ∀ (xs ys : List Rat), (∀ x ∈ xs, Six x) → (∀ y ∈ ys, ∃ k : Int, y = (k : Rat)) → Six (dotR xs ys)
  | [], ys, _, _ => by rw [dotR_nil']; exact Six.zero
  | x :: xs, [], _, _ => by rw [dotR_nil]; exact Six.zero
  | x :: xs, y :: ys, h, h' => by
    rw [dotR_cons]
    obtain ⟨k, rfl⟩ := h' y List.mem_cons_self
    refine Six.add ?_ (dot_six xs ys (fun z hz => h z (List.mem_cons_of_mem _ hz)) fun z hz => h' z (List.mem_cons_of_mem _ hz))
    rw [Rat.mul_comm]
    exact Six.imul k (h x List.mem_cons_self)
theorem addRow_six (k : Int) : ∀ (as xs : List Rat), (∀ a ∈ as, Six a) → (∀ x ∈ xs, Six x) → ∀ b ∈ addRow (k : Rat) as xs, Six b
  | [], xs, h, h', b, hb => by unfold addRow at hb; cases hb
  | a :: as, [], h, h', b, hb => by
    unfold addRow at hb
    exact h b hb
  | a :: as, x :: xs, h, h', b, hb => by
    unfold addRow at hb
    rcases List.mem_cons.mp hb with rfl | hb
    · exact (h a List.mem_cons_self).add (Six.imul k (h' x List.mem_cons_self))
    · exact addRow_six k as xs (fun c hc => h c (List.mem_cons_of_mem _ hc)) (fun c hc => h' c (List.mem_cons_of_mem _ hc)) b hb
theorem sumsFrom_six : ∀ (rs : List Row) (ys acc : List Rat), (∀ a ∈ acc, Six a) → (∀ r ∈ rs, ∀ x ∈ r.1, Six x) → (∀ y ∈ ys, ∃ k : Int, y = (k : Rat)) → ∀ b ∈ sumsFrom acc rs ys, Six b
  | [], ys, acc, h, h', hy, b, hb => by
    have e : sumsFrom acc [] ys = acc := by cases ys <;> rfl
    rw [e] at hb
    exact h b hb
  | r :: rs, [], acc, h, h', hy, b, hb => h b hb
  | r :: rs, y :: ys, acc, h, h', hy, b, hb => by
    have e : sumsFrom acc (r :: rs) (y :: ys) = sumsFrom (addRow y acc r.1) rs ys := rfl
    rw [e] at hb
    obtain ⟨k, rfl⟩ := hy y List.mem_cons_self
    exact sumsFrom_six rs ys _ (addRow_six k acc r.1 h (h' r List.mem_cons_self)) (fun r' hr' => h' r' (List.mem_cons_of_mem _ hr')) (fun y' hy' => hy y' (List.mem_cons_of_mem _ hy')) b hb
theorem sums_six {rs : List Row} {ys : List Rat} (n : Nat) (h : ∀ r ∈ rs, ∀ x ∈ r.1, Six x) (hy : ∀ y ∈ ys, ∃ k : Int, y = (k : Rat)) : ∀ b ∈ sumsFrom (List.replicate n 0) rs ys, Six b :=
  sumsFrom_six rs ys _ (fun a ha => by rw [List.eq_of_mem_replicate ha]; exact Six.zero) h hy
section
variable {cs : List Rat} {rs : List Row} {xs ys ws : List Rat}
/-- prices at a direction -/
theorem pri_dir (hw : ∀ r ∈ rs, r.1.length = cs.length) (hy : Pri cs rs ys) (h0 : ∀ w ∈ ws, 0 ≤ w) (hr : ∀ r ∈ rs, 0 ≤ dotR r.1 ws) : 0 ≤ dotR cs ws := by
  have h2 := dot_sums rs ys (List.replicate cs.length 0) ws (fun r hr => by rw [List.length_replicate]; exact hw r hr)
  rw [dot_zeros] at h2
  have h3 : dotR (sumsFrom (List.replicate cs.length 0) rs ys) ws ≤ dotR cs ws := dot_le ws _ _ h0 (by rw [sumsFrom_length, List.length_replicate]) fun j h h' => hy.le j h' h
  have h4 : 0 ≤ dotR ys (rs.map fun r => dotR r.1 ws) := by
    have := dot_le ys (List.replicate rs.length 0) (rs.map fun r => dotR r.1 ws) hy.nn (by simp) fun j h h' => by
      simp only [List.getElem_replicate, List.getElem_map]
      exact hr _ (List.getElem_mem _)
    rw [dot_zeros] at this
    rwa [dotR_comm]
  grind
theorem weak' (hw : ∀ r ∈ rs, r.1.length = cs.length) (hx0 : ∀ x ∈ xs, 0 ≤ x) (hr : ∀ r ∈ rs, r.2 ≤ dotR r.1 xs) (hy : Pri cs rs ys) : dotR ys (bnds rs) ≤ dotR cs xs := weak hw hx0 hy.nn hr hy.le
/-- feasible entries shut out a bar -/
theorem no_bar (hw : ∀ r ∈ rs, r.1.length = cs.length) (hx0 : ∀ x ∈ xs, 0 ≤ x) (hr : ∀ r ∈ rs, r.2 ≤ dotR r.1 xs) (hy : Pri (zrs cs.length) rs ys) (hp : 0 < dotR ys (bnds rs)) : False := by
  have hz : (zrs cs.length).length = cs.length := List.length_replicate
  have := weak' (by rw [hz]; exact hw) hx0 hr hy
  rw [dot_zrs] at this
  exact Rat.not_lt.mpr this hp
/-- what the law's numbers were built for -/
inductive Plan (cs : List Rat) (rs : List Row) : Nat → Rat → Prop
  | none (v : Rat) : Plan cs rs 0 v
  | best (xs ys : List Rat) (v : Rat) (hx : ∀ x ∈ xs, 0 ≤ x) (hr : ∀ r ∈ rs, r.2 ≤ dotR r.1 xs) (hy : ∀ y ∈ ys, 0 ≤ y) (hle : ∀ j (h : j < cs.length) (h' : j < (sumsFrom (List.replicate cs.length 0) rs ys).length), (sumsFrom (List.replicate cs.length 0) rs ys)[j] ≤ cs[j]) (e1 : dotR cs xs = v) (e2 : dotR ys (bnds rs) = v) : Plan cs rs 1 v
  | bar (h : ∀ xs : List Rat, (∀ x ∈ xs, 0 ≤ x) → xs.length = cs.length → (∀ r ∈ rs, r.2 ≤ dotR r.1 xs) → False) (v : Rat) : Plan cs rs 2 v
  | ray (xs ws : List Rat) (hx : ∀ x ∈ xs, 0 ≤ x) (hr : ∀ r ∈ rs, r.2 ≤ dotR r.1 xs) (hw : ∀ x ∈ ws, 0 ≤ x) (hd : ∀ r ∈ rs, 0 ≤ dotR r.1 ws) (hf : dotR cs ws < 0) (v : Rat) : Plan cs rs 3 v
/-- the answer is of the kind that was built -/
def Fits (m : Nat) (v : Rat) : Ans → Prop
  | .best w _ _ => m = 0 ∨ (m = 1 ∧ w = v)
  | .bar _ => m = 0 ∨ m = 2
  | .ray _ _ => m = 0 ∨ m = 3
theorem fits (hw : ∀ r ∈ rs, r.1.length = cs.length) {m : Nat} {v : Rat} (p : Plan cs rs m v) {a : Ans} (h : a.Ok cs rs) : Fits m v a := by
  cases p with
  | none => cases a <;> exact .inl rfl
  | best xs ys _ hx hr hy hle e1 e2 =>
    cases a with
    | best w xs' ys' =>
      obtain ⟨h1, h2, h3, h4, h5⟩ := h
      refine .inr ⟨rfl, ?_⟩
      have a1 := weak hw h1.nn hy h1.le hle
      have a2 := weak hw hx h2.nn hr h2.le
      rw [h4, e2] at a1
      rw [h5, e1] at a2
      exact Rat.le_antisymm a2 a1
    | bar ys' =>
      obtain ⟨h1, h2⟩ := h
      exact (no_bar hw hx hr h1 h2).elim
    | ray xs' ws' =>
      obtain ⟨h1, h2, h3⟩ := h
      have hdir : 0 ≤ dotR cs ws' := by
        have e := dot_sums rs ys (List.replicate cs.length 0) ws' (fun r hr => by rw [List.length_replicate]; exact hw r hr)
        rw [dot_zeros] at e
        have h3' : dotR (sumsFrom (List.replicate cs.length 0) rs ys) ws' ≤ dotR cs ws' := dot_le ws' _ _ h2.nn (by rw [sumsFrom_length, List.length_replicate]) fun j h h' => hle j h' h
        have h4 : 0 ≤ dotR ys (rs.map fun r => dotR r.1 ws') := by
          have := dot_le ys (List.replicate rs.length 0) (rs.map fun r => dotR r.1 ws') hy (by simp) fun j h h' => by
            simp only [List.getElem_replicate, List.getElem_map]
            exact h2.le _ (List.getElem_mem _)
          rw [dot_zeros] at this
          rwa [dotR_comm]
        grind
      exact (Rat.not_lt.mpr hdir h3).elim
  | bar hno =>
    cases a with
    | best w xs' ys' => exact (hno xs' h.1.nn h.1.len.symm h.1.le).elim
    | bar ys' => exact .inr rfl
    | ray xs' ws' => exact (hno xs' h.1.nn h.1.len.symm h.1.le).elim
  | ray xs ws hx hr hws hd hf =>
    cases a with
    | best w xs' ys' => exact (Rat.not_lt.mpr (pri_dir hw h.2.1 hws hd) hf).elim
    | bar ys' => exact (no_bar hw hx hr h.1 h.2).elim
    | ray xs' ws' => exact .inr rfl
end
end W86
set_option linter.all false
set_option maxRecDepth 100000
set_option maxHeartbeats 2000000
/-! W31: numbers with a best answer. -/
namespace W86
open PySem MP I86
variable {fuel d : Nat} {st : St}
/-- a small integer that is not below 0 -/
def Nk (q : Rat) : Prop := ∃ k : Int, 0 ≤ k ∧ k < 4 ∧ q = (k : Rat)
theorem Nk.sz {q : Rat} (h : Nk q) : Sz 2 q := by
  obtain ⟨k, h1, h2, rfl⟩ := h
  exact int_sz (by omega) (bd_of h1 (by omega))
theorem Nk.nn {q : Rat} (h : Nk q) : 0 ≤ q := by
  obtain ⟨k, h1, h2, rfl⟩ := h
  exact_mod_cast h1
theorem Nk.int {q : Rat} (h : Nk q) : ∃ k : Int, q = (k : Rat) := by
  obtain ⟨k, h1, h2, rfl⟩ := h
  exact ⟨k, rfl⟩
theorem dot_gq {B C : Nat} {xs ys : List Rat} (hx : ∀ x ∈ xs, Gq B x) (hy : ∀ y ∈ ys, Nk y) (hl : xs.length ≤ 5) (h : B + 2 + 1 ≤ C) : Gq (5 * C + 1) (dotR xs ys) := by
  refine ⟨?_, dot_six xs ys (fun x hx' => (hx x hx').2) (fun y hy' => (hy y hy').int)⟩
  have h1 := dotR_sz (A := B + 2) xs ys fun q hq r hr => (hx q hq).1.mul (hy r hr).sz
  refine h1.mono ?_
  have : xs.length * (B + 2 + 1) ≤ 5 * C := Nat.mul_le_mul hl h
  omega
theorem ev_dotN {B : Nat} {x y : D} {xs ys : List Rat} (hx : IsQ x xs) (hy : IsQ y ys) (hl : xs.length ≤ ys.length) (h6 : xs.length ≤ 6) (hB : B ≤ 400) (hxs : ∀ q ∈ xs, Sz B q) (hys : ∀ q ∈ ys, Sz 2 q) :
    callF pk.pg chkC fuel (d + 4) 14 [x, y] st = .ok (qD (dotR xs ys)) st := by
  have : xs.length * (B + 2 + 1) ≤ 6 * 403 := Nat.mul_le_mul h6 (by omega)
  exact ev_dot (A := B + 2) hx hy hl (fun q hq r hr => ⟨(hxs q hq).mul (hys r hr), B, 2, hxs q hq, hys r hr, by omega⟩) (by omega)
theorem num_nk {q : Rat} (h : Nk q) : (q.num = 0 ↔ q = 0) := Rat.num_eq_zero
/-- what the rows fulfil -/
def RowOk (xs : List Rat) (ls : List (List Rat)) (ys : List Rat) (i : Nat) (r : Row) : Prop := r.1 = ls.getD i [] ∧ Gq 40 r.2 ∧ r.2 ≤ dotR r.1 xs ∧ ys.getD i 0 * r.2 = ys.getD i 0 * dotR r.1 xs
theorem getD_getElem {α : Type} {l : List α} {i : Nat} (h : i < l.length) (x : α) : l.getD i x = l[i] := by simp [h]
theorem best_rows {n : Nat} {ls : List (List Rat)} {ds : List Int} {xs ys : List Rat} (hl : ls.length ≤ 5) (hd : ds.length = 40) (hls : ∀ l ∈ ls, l.length = n ∧ ∀ q ∈ l, Gq 3 q) (hn : n ≤ 5) (hx : xs.length = n) (hxk : ∀ x ∈ xs, Nk x) (hy : ys.length = ls.length) (hyk : ∀ y ∈ ys, Nk y) (a1 a3 : Option D) :
    ∀ (m i : Nat) (acc : List Row) (k0 b0 : Option D), i + m = ls.length → acc.length = i → (∀ j (h : j < acc.length), RowOk xs ls ys j acc[j]) →
    ∃ (acc' : List Row) (k1 b1 : Option D), acc'.length = ls.length ∧ (∀ j (h : j < acc'.length), RowOk xs ls ys j acc'[j]) ∧ forL (stepB (cfgOf pk.pg fuel (callF pk.pg chkC fuel (d + 4))) lt21_0 lb21_0) (rangeL i ls.length) [some (linesD ls), a1, some (figsD ds), a3, some (.lst (xs.map qD)), k0, some (.lst (ys.map qD)), some (.ref st.length), b0, none] (st ++ [.lst (acc.map rowD)]) =
      .next [some (linesD ls), a1, some (figsD ds), a3, some (.lst (xs.map qD)), k1, some (.lst (ys.map qD)), some (.ref st.length), b1, none] (st ++ [.lst (acc'.map rowD)])
  | 0, i, acc, k0, b0, hi, ha, hf => by
    rw [range_nil _ _ (by omega)]
    exact ⟨acc, k0, b0, by omega, hf, by unfold forL; rfl⟩
  | m + 1, i, acc, k0, b0, hi, ha, hf => by
    rw [range_cons _ _ (by omega)]
    unfold forL
    have h1 : i < ls.length := by omega
    have h2 : i < ys.length := by omega
    have hlim : (acc.map rowD).length < lim := by
      rw [List.length_map, ha]; unfold lim; omega
    obtain ⟨l1, l2⟩ := hls _ (List.getElem_mem h1)
    have hdot := fun s => ev_dotN (fuel := fuel) (d := d) (st := s) (B := 3) (x := .lst (ls[i].map qD)) (y := .lst (xs.map qD)) (.inl rfl) (.inl rfl) (by omega) (by omega) (by omega) (fun q hq => (l2 q hq).1) (fun q hq => (hxk q hq).sz)
    have hg := dot_gq (C := 6) l2 hxk (by omega) (by omega)
    have hxd := idx_figs (st := st ++ [.lst (acc.map rowD)]) ds (20 + i) (by omega)
    have e : ((20 + i : Nat) : Int) = 20 + (i : Int) := by simp
    rw [e] at hxd
    have hyl := idx_lines (st := st ++ [.lst (acc.map rowD)]) ls i h1
    have hyi : idxD (st ++ [.lst (acc.map rowD)]) (.lst (ys.map qD)) (.int i) = some (qD ys[i]) := IsQ.idx (.inl rfl) i h2
    obtain ⟨f0, f1⟩ := fmod_in ds[20 + i] 3 (by omega)
    have hneg : Gq 2 (((-(ds[20 + i].fmod 3) : Int)) : Rat) := ⟨int_sz (by omega) (Bd.neg (bd_of f0 (by omega))), Six.int _⟩
    have hadd := fun s => ev_ladd (fuel := fuel) (d := d + 1) (st := s) _ _ hg.1 hneg.1 (by omega)
    rw [← int_qD] at hadd
    have h3 := num_nk (hyk _ (List.getElem_mem h2))
    have hgd : ls.getD i [] = ls[i] := getD_getElem h1 _
    generalize ls[i] = li at *
    obtain ⟨b, hb1, hb2⟩ : ∃ b, RowOk xs ls ys i (li, b) ∧ stepB (cfgOf pk.pg fuel (callF pk.pg chkC fuel (d + 4))) lt21_0 lb21_0 (.int i) [some (linesD ls), a1, some (figsD ds), a3, some (.lst (xs.map qD)), k0, some (.lst (ys.map qD)), some (.ref st.length), b0, none] (st ++ [.lst (acc.map rowD)]) =
        .next [some (linesD ls), a1, some (figsD ds), a3, some (.lst (xs.map qD)), some (.int i), some (.lst (ys.map qD)), some (.ref st.length), some (qD b), none] (st ++ [.lst ((acc ++ [(li, b)]).map rowD)]) := by
      have e2 : ∀ b, D.tup [.lst (li.map qD), qD b] = rowD (li, b) := fun _ => rfl
      by_cases hz : ys[i].num = 0
      · refine ⟨dotR li xs + (((-(ds[20 + i].fmod 3) : Int)) : Rat), ⟨hgd.symm, ⟨(hg.1.add hneg.1).mono (by omega), hg.2.add hneg.2⟩, ?_, ?_⟩, ?_⟩
        · have : ((-(ds[20 + i].fmod 3) : Int) : Rat) ≤ 0 := by
            have h0 : -(ds[20 + i].fmod 3) ≤ 0 := by omega
            exact_mod_cast h0
          show dotR li xs + _ ≤ dotR li xs
          grind
        · rw [getD_getElem h2, h3.mp hz]; grind
        · unfold lt21_0 lb21_0
          simp [hyl, hdot, hyi, hz, hxd, hadd, e2, bmT_end, bm_append_end _ _ hlim]
      · refine ⟨dotR li xs, ⟨hgd.symm, ⟨hg.1.mono (by omega), hg.2⟩, Rat.le_refl, rfl⟩, ?_⟩
        unfold lt21_0 lb21_0
        simp [hyl, hdot, hyi, hz, e2, bmT_end, bm_append_end _ _ hlim]
    obtain ⟨acc2, k2, b2, g1, g2, g3⟩ := best_rows hl hd hls hn hx hxk hy hyk a1 a3 m (i + 1) (acc ++ [(li, b)]) (some (.int i)) (some (qD b)) (by omega) (by simp [ha]) (by
      intro j hj
      by_cases e : j < acc.length
      · rw [List.getElem_append_left e]; exact hf j e
      · have : j = i := by simp at hj; omega
        subst this
        rw [List.getElem_append_right (by omega)]
        simpa [ha] using hb1)
    have e2 : ((i + 1 : Nat) : Int) = (i : Int) + 1 := by omega
    rw [e2] at g3
    exact ⟨acc2, k2, b2, g1, g2, by rw [hb2]; exact g3⟩
/-- what the costs fulfil -/
def CostOk (xs ss : List Rat) (j : Nat) (c : Rat) : Prop := Gq 40 c ∧ ss.getD j 0 ≤ c ∧ c * xs.getD j 0 = ss.getD j 0 * xs.getD j 0
theorem best_costs {n : Nat} {ds : List Int} {xs ss : List Rat} (hd : ds.length = 40) (hn : n ≤ 5) (hx : xs.length = n) (hxk : ∀ x ∈ xs, Nk x) (hs : ss.length = n) (hss : ∀ s ∈ ss, Gq 31 s) (a0 a1 a5 a6 a7 a8 : Option D) :
    ∀ (m i : Nat) (acc : List Rat) (k0 : Option D), i + m = n → acc.length = n → (∀ j (h : j < acc.length), if j < i then CostOk xs ss j acc[j] else acc[j] = ss.getD j 0) →
    ∃ (acc' : List Rat) (k1 : Option D), acc'.length = n ∧ (∀ j (h : j < acc'.length), CostOk xs ss j acc'[j]) ∧ forL (stepB (cfgOf pk.pg fuel (callF pk.pg chkC fuel (d + 4))) lt21_1 lb21_1) (rangeL i n) [a0, a1, some (figsD ds), k0, some (.lst (xs.map qD)), a5, a6, a7, a8, some (.ref st.length)] (st ++ [.lst (acc.map qD)]) =
      .next [a0, a1, some (figsD ds), k1, some (.lst (xs.map qD)), a5, a6, a7, a8, some (.ref st.length)] (st ++ [.lst (acc'.map qD)])
  | 0, i, acc, k0, hi, ha, hf => by
    rw [range_nil _ _ (by omega)]
    refine ⟨acc, k0, ha, fun j h => ?_, by unfold forL; rfl⟩
    have := hf j h
    rwa [if_pos (by omega)] at this
  | m + 1, i, acc, k0, hi, ha, hf => by
    rw [range_cons _ _ (by omega)]
    unfold forL
    have h1 : i < xs.length := by omega
    have h2 : i < acc.length := by omega
    have h4 : i < ss.length := by omega
    have hai : acc[i] = ss[i] := by
      have := hf i h2
      rw [if_neg (by omega), getD_getElem h4] at this
      exact this
    have hxd := idx_figs (st := st ++ [.lst (acc.map qD)]) ds (30 + i) (by omega)
    have e : ((30 + i : Nat) : Int) = 30 + (i : Int) := by simp
    rw [e] at hxd
    have hxi : idxD (st ++ [.lst (acc.map qD)]) (.lst (xs.map qD)) (.int i) = some (qD xs[i]) := IsQ.idx (.inl rfl) i h1
    have hci : L2.atI (acc.map qD) (i : Int) = some (qD ss[i]) := by
      rw [atI_nat]; simp [h2, hai]
    obtain ⟨f0, f1⟩ := fmod_in ds[30 + i] 3 (by omega)
    have hps : Gq 2 (((ds[30 + i].fmod 3 : Int)) : Rat) := ⟨int_sz (by omega) (bd_of f0 (by omega)), Six.int _⟩
    have hg := hss _ (List.getElem_mem h4)
    have hadd := fun s => ev_ladd (fuel := fuel) (d := d + 1) (st := s) _ _ hg.1 hps.1 (by omega)
    rw [← int_qD] at hadd
    have h3 := num_nk (hxk _ (List.getElem_mem h1))
    have hset : ∀ c : Rat, setD (.ref st.length) (.int i) (qD c) (st ++ [.lst (acc.map qD)]) = some (st ++ [.lst ((acc.set i c).map qD)]) := by
      intro c
      rw [set_end, ixN_nat _ _ (by simpa using h2)]
      simp [List.map_set]
    obtain ⟨c, hc1, hc2⟩ : ∃ c, CostOk xs ss i c ∧ stepB (cfgOf pk.pg fuel (callF pk.pg chkC fuel (d + 4))) lt21_1 lb21_1 (.int i) [a0, a1, some (figsD ds), k0, some (.lst (xs.map qD)), a5, a6, a7, a8, some (.ref st.length)] (st ++ [.lst (acc.map qD)]) =
        .next [a0, a1, some (figsD ds), some (.int i), some (.lst (xs.map qD)), a5, a6, a7, a8, some (.ref st.length)] (st ++ [.lst ((acc.set i c).map qD)]) := by
      by_cases hz : xs[i].num = 0
      · refine ⟨ss[i] + (((ds[30 + i].fmod 3 : Int)) : Rat), ⟨⟨(hg.1.add hps.1).mono (by omega), hg.2.add hps.2⟩, ?_, ?_⟩, ?_⟩
        · have : (0 : Rat) ≤ ((ds[30 + i].fmod 3 : Int) : Rat) := by exact_mod_cast f0
          rw [getD_getElem h4]
          grind
        · rw [getD_getElem h1, h3.mp hz]; grind
        · unfold lt21_1 lb21_1
          simp [hxi, hz, hci, hxd, hadd, setK, hset]
      · refine ⟨ss[i], ⟨⟨hg.1.mono (by omega), hg.2⟩, by rw [getD_getElem h4]; exact Rat.le_refl, by rw [getD_getElem h4]⟩, ?_⟩
        have e5 : acc.set i ss[i] = acc := by
          rw [← hai]; exact List.set_getElem_self ..
        rw [e5]
        unfold lt21_1 lb21_1
        simp [hxi, hz]
    obtain ⟨acc2, k2, g1, g2, g3⟩ := best_costs hd hn hx hxk hs hss a0 a1 a5 a6 a7 a8 m (i + 1) (acc.set i c) (some (.int i)) (by omega) (by simpa using ha) (by
      intro j hj
      rw [List.getElem_set]
      have hj' : j < acc.length := by simpa using hj
      by_cases e : i = j
      · subst e
        rw [if_pos (by omega), if_pos rfl]; exact hc1
      · have h5 := hf j hj'
        rw [if_neg e]
        by_cases h6 : j < i
        · rw [if_pos h6] at h5
          rw [if_pos (by omega)]; exact h5
        · rw [if_neg h6] at h5
          rw [if_neg (by omega)]; exact h5)
    have e2 : ((i + 1 : Nat) : Int) = (i : Int) + 1 := by omega
    rw [e2] at g3
    exact ⟨acc2, k2, g1, g2, by rw [hc2]; exact g3⟩
end W86
set_option linter.all false
set_option maxRecDepth 100000
set_option maxHeartbeats 2000000
/-! W32: numbers with a best answer, whole. -/
namespace W86
open PySem MP I86
variable {fuel d : Nat} {st : St}
theorem frzs_plain : ∀ (k : Nat) (xs : List D) (s : St), (∀ x ∈ xs, ∀ (k : Nat) (s : St), frz k x s = some (x, s)) → frzs k xs s = some (xs, s)
  | k, [], s, _ => by unfold frzs; rfl
  | k, x :: xs, s, h => by
    unfold frzs
    rw [h x List.mem_cons_self]
    dsimp only
    rw [frzs_plain k xs s fun y hy => h y (List.mem_cons_of_mem _ hy)]
theorem frz_at {s : St} {k : Nat} {xs : List D} (hk : s[k]? = some (.lst xs)) (h : ∀ x ∈ xs, ∀ (k : Nat) (s : St), frz k x s = some (x, s)) : frz 6 (.ref k) s = some (.lst xs, s.set k .dead) := by
  unfold frz
  rw [hk]
  dsimp only
  rw [frzs_plain _ xs _ h]
theorem plain_q (qs : List Rat) : ∀ x ∈ qs.map qD, ∀ (k : Nat) (s : St), frz k x s = some (x, s) := by
  intro x hx k s
  obtain ⟨q, _, rfl⟩ := List.mem_map.mp hx
  exact frz_qD q k s
theorem plain_r (rs : List Row) : ∀ x ∈ rs.map rowD, ∀ (k : Nat) (s : St), frz k x s = some (x, s) := by
  intro x hx k s
  obtain ⟨q, _, rfl⟩ := List.mem_map.mp hx
  exact frz_rowD q k s
/-- a list whose entries fulfil something -/
theorem mem_of_idx {α : Type} {l : List α} {P : Nat → α → Prop} (h : ∀ j (hj : j < l.length), P j l[j]) {a : α} (ha : a ∈ l) : ∃ j, j < l.length ∧ P j a := by
  obtain ⟨j, hj, rfl⟩ := List.mem_iff_getElem.mp ha
  exact ⟨j, hj, h j hj⟩
theorem dot_eqs : ∀ (as bs xs : List Rat), as.length = bs.length → (∀ j (h : j < as.length), as.getD j 0 * xs.getD j 0 = bs.getD j 0 * xs.getD j 0) → dotR as xs = dotR bs xs
  | [], [], xs, _, _ => rfl
  | [], _ :: _, _, h, _ => by cases h
  | _ :: _, [], _, h, _ => by cases h
  | a :: as, b :: bs, [], _, _ => by rw [dotR_nil, dotR_nil]
  | a :: as, b :: bs, x :: xs, h, e => by
    rw [dotR_cons, dotR_cons]
    have h0 : a * x = b * x := e 0 (by simp)
    rw [h0, dot_eqs as bs xs (by simpa using h) fun j hj => by
      have := e (j + 1) (by simpa using hj)
      exact this]
theorem ev_best {n : Nat} {ls : List (List Rat)} {ds : List Int} (hn : n ≤ 5) (hl : ls.length ≤ 5) (hd : ds.length = 40) (hls : ∀ l ∈ ls, l.length = n ∧ ∀ q ∈ l, Gq 3 q) :
    ∃ (cs : List Rat) (rs : List Row) (v : Rat), cs.length = n ∧ GivZ cs rs ∧ GivT cs rs ∧ Plan cs rs 1 v ∧ callF pk.pg chkC fuel (d + 5) 21 [linesD ls, .int n, figsD ds] st = .ok (.lst [.lst (cs.map qD), rowsD rs, qD v]) st := by
  have nk : ∀ a : Int, Nk (((if 0 < a.fmod 6 - 2 then a.fmod 6 - 2 else 0 : Int)) : Rat) := by
    intro a
    obtain ⟨f0, f1⟩ := fmod_in a 6 (by omega)
    refine ⟨_, ?_, ?_, rfl⟩ <;> split <;> omega
  obtain ⟨xs, x1, x2, x3⟩ := compL_ix0 (st := st) (R := fun _ q => Nk q) (n := n) (body := turnB (cfgOf pk.pg fuel (callF pk.pg chkC fuel (d + 4))) [3] ce21_0 ct21_0 .nil [some (linesD ls), some (.int n), some (figsD ds), none, none, none, none, none, none, none]) (by
    intro j hj
    have hx := idx_figs (st := st) ds j (by omega)
    refine ⟨_, nk ds[j], ?_⟩
    unfold ct21_0
    rw [turn_name]
    simp [ce21_0, hx, int_qD])
  obtain ⟨ys, y1, y2, y3⟩ := compL_ix0 (st := st) (R := fun _ q => Nk q) (n := ls.length) (body := turnB (cfgOf pk.pg fuel (callF pk.pg chkC fuel (d + 4))) [5] ce21_1 ct21_1 .nil [some (linesD ls), some (.int n), some (figsD ds), none, some (.lst (xs.map qD)), none, none, none, none, none]) (by
    intro j hj
    have hx := idx_figs (st := st) ds (10 + j) (by omega)
    have e : ((10 + j : Nat) : Int) = 10 + (j : Int) := by simp
    rw [e] at hx
    refine ⟨_, nk ds[10 + j], ?_⟩
    unfold ct21_1
    rw [turn_name]
    simp [ce21_1, hx, int_qD])
  have hxk : ∀ x ∈ xs, Nk x := fun x hx => by
    obtain ⟨j, hj, h⟩ := mem_of_idx x2 hx
    exact h
  have hyk : ∀ y ∈ ys, Nk y := fun x hx => by
    obtain ⟨j, hj, h⟩ := mem_of_idx y2 hx
    exact h
  obtain ⟨rs, k1, b1, r1, r2, r3⟩ := best_rows (fuel := fuel) (d := d) (st := st) (n := n) hl hd hls hn x1 hxk y1 hyk (some (.int n)) none ls.length 0 [] none none (by omega) rfl (fun j h => absurd h (by simp))
  have hr1 : ∀ r ∈ rs, r.1.length = n ∧ (∀ q ∈ r.1, Gq 3 q) ∧ Gq 40 r.2 ∧ r.2 ≤ dotR r.1 xs := by
    intro r hr
    obtain ⟨j, hj, h1, h2, h3, h4⟩ := mem_of_idx r2 hr
    have hm : r.1 ∈ ls := by
      rw [h1, getD_getElem (by omega)]
      exact List.getElem_mem _
    exact ⟨(hls _ hm).1, (hls _ hm).2, h2, h3⟩
  have hA : SzD 5 rs ys := fun r hr y hy x hx => ⟨((hyk y hy).sz.mul ((hr1 r hr).2.1 x hx).1).mono (by omega), 2, 3, (hyk y hy).sz, ((hr1 r hr).2.1 x hx).1, by omega⟩
  have hmul : rs.length * (5 + 1) ≤ 5 * 6 := Nat.mul_le_mul (by omega) (by omega)
  have hsum := ev_sumsR (fuel := fuel) (d := d) (st := st ++ [.lst (rs.map rowD)]) (A := 5) (n := n) (rs := rs) (xr := .ref st.length) (.inr ⟨_, rfl, by simp⟩) (y := .lst (ys.map qD)) (ys := ys) (.inl rfl) (by omega) (show small n by unfold small; omega) (show small rs.length by unfold small; omega) (fun r hr => (hr1 r hr).1) hA (by omega)
  generalize hss : sumsFrom (List.replicate n 0) rs ys = ss at hsum
  have hssl : ss.length = n := by rw [← hss, sumsFrom_length, List.length_replicate]
  have hssg : ∀ s ∈ ss, Gq 31 s := by
    intro s hs
    rw [← hss] at hs
    refine ⟨?_, sums_six n (fun r hr x hx => ((hr1 r hr).2.1 x hx).2) (fun y hy => (hyk y hy).int) s hs⟩
    exact (sumsFrom_sz (A := 5) rs ys _ 1 (fun a ha => by rw [List.eq_of_mem_replicate ha]; exact sz_zero 0) (fun r hr y hy x hx => (hA r hr y hy x hx).1) s hs).mono (by omega)
  obtain ⟨cs, k2, c1, c2, c3⟩ := best_costs (fuel := fuel) (d := d) (st := st ++ [.lst (rs.map rowD)]) hd hn x1 hxk hssl hssg (some (linesD ls)) (some (.int n)) k1 (some (.lst (ys.map qD))) (some (.ref st.length)) b1 n 0 ss none (by omega) hssl (fun j h => by rw [if_neg (by omega), getD_getElem h])
  have hcg : ∀ c ∈ cs, Gq 40 c := fun c hc => by
    obtain ⟨j, hj, h⟩ := mem_of_idx c2 hc
    exact h.1
  have hdot := fun s => ev_dotN (fuel := fuel) (d := d) (st := s) (B := 40) (x := .lst (cs.map qD)) (y := .lst (xs.map qD)) (.inl rfl) (.inl rfl) (by omega) (by omega) (by omega) (fun q hq => (hcg q hq).1) (fun q hq => (hxk q hq).sz)
  refine ⟨cs, rs, dotR cs xs, c1, ⟨by omega, by omega, fun c hc => (hcg c hc).1.mono (by omega), fun r hr => ⟨by rw [(hr1 r hr).1, c1], fun x hx => ((hr1 r hr).2.1 x hx).1.mono (by omega), (hr1 r hr).2.2.1.1.mono (by omega)⟩⟩, ⟨fun c hc => (hcg c hc).2.twe.den, fun r hr => ⟨fun x hx => ((hr1 r hr).2.1 x hx).2.twe.den, (hr1 r hr).2.2.1.2.twe.den⟩⟩, ?_, ?_⟩
  · refine .best xs ys _ (fun x hx => (hxk x hx).nn) (fun r hr => (hr1 r hr).2.2.2) (fun y hy => (hyk y hy).nn) (fun j h h' => ?_) rfl ?_
    · have := (c2 j h).2.1
      simp only [c1, hss] at h' ⊢
      rw [getD_getElem h'] at this
      exact this
    · have e1 : dotR cs xs = dotR ss xs := dot_eqs cs ss xs (by omega) fun j hj => by
        have := (c2 j hj).2.2
        rw [getD_getElem hj]
        exact this
      have e2 := dot_sums rs ys (List.replicate n 0) xs (fun r hr => by rw [List.length_replicate]; exact (hr1 r hr).1)
      rw [dot_zeros, hss] at e2
      have e3 : dotR ys (bnds rs) = dotR ys (rs.map fun r => dotR r.1 xs) := by
        rw [dotR_comm ys, dotR_comm ys]
        refine dot_eqs _ _ ys (by simp [bnds]) fun j hj => ?_
        have hj' : j < rs.length := by simpa [bnds] using hj
        have h4 := (r2 j hj').2.2.2
        have f1 : (bnds rs).getD j 0 = rs[j].2 := by simp [bnds, hj']
        have f2 : (rs.map fun r => dotR r.1 xs).getD j 0 = dotR rs[j].1 xs := by simp [hj']
        rw [f1, f2]
        grind
      rw [e3, e1, e2]; grind
  · rw [call_eq 21 f21 rfl _ [linesD ls, .int n, figsD ds] rfl]
    have hs : small n := by unfold small; omega
    have hs2 : small ls.length := by unfold small; omega
    have hf1 := frz_at (s := (st ++ [SO.lst (rs.map rowD)]) ++ [SO.lst (cs.map qD)]) (k := (st ++ [SO.lst (rs.map rowD)]).length) (xs := cs.map qD) (by simp) (plain_q cs)
    have hf1' : ((st ++ [SO.lst (rs.map rowD)]) ++ [SO.lst (cs.map qD)]).set (st ++ [SO.lst (rs.map rowD)]).length .dead = st ++ [SO.lst (rs.map rowD), SO.dead] := by simp
    rw [hf1'] at hf1
    have hf2 := frz_at (s := st ++ [SO.lst (rs.map rowD), SO.dead]) (k := st.length) (xs := rs.map rowD) (by simp) (plain_r rs)
    have hf2' : (st ++ [SO.lst (rs.map rowD), SO.dead]).set st.length .dead = st ++ [SO.dead, SO.dead] := by simp
    rw [hf2'] at hf2
    have hnr : nrs (cs.map qD) = true := nrs_map _ nr_qD _
    have hnr2 : nrs (rs.map rowD) = true := nrs_map _ nr_rowD _
    unfold ce21_0 ct21_0 at x3
    unfold ce21_1 ct21_1 at y3
    unfold lt21_0 lb21_0 at r3
    unfold lt21_1 lb21_1 at c3
    simp only [show ((0 : Nat) : Int) = 0 from rfl, List.map_nil] at r3 c3
    have er : rowsD rs = .lst (rs.map rowD) := rfl
    generalize hst1 : st ++ [SO.lst (rs.map rowD)] = st1 at *
    unfold runF f21 b21
    simp only [er]
    simp [hs, hs2, x3, y3, r3, hsum, c3, frzS, hf1, hf2, hdot, hnr, hnr2]
end W86
set_option linter.all false
set_option maxRecDepth 100000
set_option maxHeartbeats 2000000
/-! W33: numbers with a bar. -/
namespace W86
open PySem MP I86
variable {fuel d : Nat} {st : St}
theorem neg_qD (q : Rat) : D.tup [.int (-q.num), .int (q.den : Int)] = qD (-q) := by
  unfold qD
  rw [Rat.neg_num, Rat.neg_den]
theorem dot_negs : ∀ (ss xs : List Rat), dotR (ss.map fun s => -s) xs = -dotR ss xs := by
  intro ss xs
  rw [dotR_comm, dot_neg, dotR_comm]
theorem cut_to (xs : List D) (a : Nat) (h : a ≤ xs.length) : cutL xs none (some (a : Int)) = xs.take a := by
  unfold cutL
  rw [HT.sIx_none, HT.sIx_nat, List.drop_zero, Nat.sub_zero, Nat.min_eq_left h]
theorem cut_from (xs : List D) (a : Nat) (h : a ≤ xs.length) : cutL xs (some (a : Int)) none = xs.drop a := by
  unfold cutL
  rw [HT.sIx_none, HT.sIx_nat, Nat.min_eq_left h]
  exact List.take_of_length_le (by simp)
theorem slc_to (rs : List Row) (a : Nat) (h : a ≤ rs.length) : slcD false (rowsD rs) none (some (a : Int)) st = .ok (rowsD (rs.take a)) st := by
  show mkL false (cutL (rs.map rowD) none (some (a : Int))) st = _
  rw [cut_to _ _ (by simpa using h)]
  simp [rowsD, List.map_take]
theorem slc_from (rs : List Row) (a : Nat) (h : a ≤ rs.length) : slcD false (rowsD rs) (some (a : Int)) none st = .ok (rowsD (rs.drop a)) st := by
  show mkL false (cutL (rs.map rowD) (some (a : Int)) none) st = _
  rw [cut_from _ _ (by simpa using h)]
  simp [rowsD, List.map_drop]
/-- what was drawn -/
structure Drawn (n : Nat) (cs : List Rat) (rs : List Row) (ds : List Int) : Prop where
  hn : n ≤ 5
  hc : cs.length = n
  hm : rs.length ≤ 5
  hd : ds.length = 40
  c : ∀ c ∈ cs, Gq 4 c
  r : ∀ r ∈ rs, r.1.length = n ∧ (∀ x ∈ r.1, Gq 3 x) ∧ Gq 4 r.2
theorem Drawn.giv {n : Nat} {cs : List Rat} {rs : List Row} {ds : List Int} (h : Drawn n cs rs ds) : GivZ cs rs ∧ GivT cs rs := by
  have h1 := h.hn
  have h2 := h.hc
  have h3 := h.hm
  refine ⟨⟨by omega, by omega, fun c hc => (h.c c hc).1.mono (by omega), fun r hr => ⟨by rw [(h.r r hr).1, h.hc], fun x hx => ((h.r r hr).2.1 x hx).1.mono (by omega), (h.r r hr).2.2.1.mono (by omega)⟩⟩, ⟨fun c hc => (h.c c hc).2.twe.den, fun r hr => ⟨fun x hx => ((h.r r hr).2.1 x hx).2.twe.den, (h.r r hr).2.2.2.twe.den⟩⟩⟩
theorem ev_withBar {n : Nat} {cs : List Rat} {rs : List Row} {ds : List Int} (h : Drawn n cs rs ds) :
    ∃ (rs' : List Row), GivZ cs rs' ∧ GivT cs rs' ∧ Plan cs rs' 2 0 ∧ callF pk.pg chkC fuel (d + 5) 23 [.lst (cs.map qD), rowsD rs, figsD ds] st = .ok (worldD cs rs') st := by
  obtain ⟨hn, hc, hm, hd, hcg, hrg⟩ := h
  obtain ⟨ys, y1, y2, y3⟩ := compL_ix0 (st := st) (R := fun _ q => Nk q) (n := rs.length) (body := turnB (cfgOf pk.pg fuel (callF pk.pg chkC fuel (d + 4))) [9] ce23_0 ct23_0 .nil [some (.lst (cs.map qD)), some (rowsD rs), some (figsD ds), none, none, none, none, none, none, none, none, none]) (by
    intro j hj
    have hx := idx_figs (st := st) ds (20 + j) (by omega)
    have e : ((20 + j : Nat) : Int) = 20 + (j : Int) := by simp
    rw [e] at hx
    obtain ⟨f0, f1⟩ := fmod_in ds[20 + j] 3 (by omega)
    refine ⟨((ds[20 + j].fmod 3 : Int) : Rat), ⟨_, f0, by omega, rfl⟩, ?_⟩
    unfold ct23_0
    rw [turn_name]
    simp [ce23_0, hx, int_qD])
  have hyk : ∀ y ∈ ys, Nk y := fun x hx => by
    obtain ⟨j, hj, h⟩ := mem_of_idx y2 hx
    exact h
  have hA : SzD 5 rs ys := fun r hr y hy x hx => ⟨((hyk y hy).sz.mul ((hrg r hr).2.1 x hx).1).mono (by omega), 2, 3, (hyk y hy).sz, ((hrg r hr).2.1 x hx).1, by omega⟩
  have hmul : rs.length * (5 + 1) ≤ 5 * 6 := Nat.mul_le_mul (by omega) (by omega)
  have hsum := ev_sums (fuel := fuel) (d := d) (st := st) (A := 5) (n := n) (rs := rs) (y := .lst (ys.map qD)) (ys := ys) (.inl rfl) (by omega) (show small n by unfold small; omega) (show small rs.length by unfold small; omega) (fun r hr => (hrg r hr).1) hA (by omega)
  generalize hss : sumsFrom (List.replicate n 0) rs ys = ss at hsum
  have hssl : ss.length = n := by rw [← hss, sumsFrom_length, List.length_replicate]
  have hssg : ∀ s ∈ ss, Gq 31 s := by
    intro s hs
    rw [← hss] at hs
    refine ⟨?_, sums_six n (fun r hr x hx => ((hrg r hr).2.1 x hx).2) (fun y hy => (hyk y hy).int) s hs⟩
    exact (sumsFrom_sz (A := 5) rs ys _ 1 (fun a ha => by rw [List.eq_of_mem_replicate ha]; exact sz_zero 0) (fun r hr y hy x hx => (hA r hr y hy x hx).1) s hs).mono (by omega)
  -- the line
  obtain ⟨li, l1, l2, l3⟩ := compL_ix0 (st := st ++ [SO.lst (ss.map qD)]) (R := fun j q => Gq 40 q ∧ q ≤ -ss.getD j 0) (n := n) (body := turnB (cfgOf pk.pg fuel (callF pk.pg chkC fuel (d + 4))) [10] ce23_1 ct23_1 .nil [some (.lst (cs.map qD)), some (rowsD rs), some (figsD ds), some (.lst (ys.map qD)), some (.ref st.length), none, none, none, none, none, none, none]) (by
    intro j hj
    have h1 : j < ss.length := by omega
    have hx := idx_figs (st := st ++ [SO.lst (ss.map qD)]) ds (30 + j) (by omega)
    have e : ((30 + j : Nat) : Int) = 30 + (j : Int) := by simp
    rw [e] at hx
    obtain ⟨f0, f1⟩ := fmod_in ds[30 + j] 3 (by omega)
    have f2 : 0 ≤ (ds[30 + j].fmod 3).fdiv 2 ∧ (ds[30 + j].fmod 3).fdiv 2 ≤ 1 := by
      rw [Int.fdiv_eq_ediv_of_nonneg _ (by omega)]
      omega
    have hci : L2.atI (ss.map qD) (j : Int) = some (qD ss[j]) := by
      rw [atI_nat]; simp [h1]
    have hg := hssg _ (List.getElem_mem h1)
    have hps : Gq 2 (((-((ds[30 + j].fmod 3).fdiv 2) : Int)) : Rat) := ⟨int_sz (by omega) (Bd.neg (bd_of f2.1 (by omega))), Six.int _⟩
    have hadd := fun s => ev_ladd (fuel := fuel) (d := d + 1) (st := s) (-ss[j]) _ (sz_neg hg.1) hps.1 (by omega)
    rw [← int_qD, ← neg_qD] at hadd
    have dv : DivOk 2 := by decide
    refine ⟨-ss[j] + (((-((ds[30 + j].fmod 3).fdiv 2) : Int)) : Rat), ⟨⟨((sz_neg hg.1).add hps.1).mono (by omega), hg.2.neg.add hps.2⟩, ?_⟩, ?_⟩
    · have : (((-((ds[30 + j].fmod 3).fdiv 2)) : Int) : Rat) ≤ 0 := by
        have h0 : -((ds[30 + j].fmod 3).fdiv 2) ≤ 0 := by omega
        exact_mod_cast h0
      rw [getD_getElem h1]
      grind
    · unfold ct23_1
      rw [turn_name]
      simp [ce23_1, hx, hci, dv, hadd])
  have hlg : ∀ x ∈ li, Gq 40 x := fun x hx => by
    obtain ⟨j, hj, h⟩ := mem_of_idx (P := fun j q => Gq 40 q ∧ q ≤ -ss.getD j 0) l2 hx
    exact h.1
  -- its bound
  have hwo := fun s => ev_dotN (fuel := fuel) (d := d) (st := s) (B := 4) (x := .lst ((bnds rs).map qD)) (y := .lst (ys.map qD)) (xs := bnds rs) (ys := ys) (.inl rfl) (.inl rfl) (by simp [bnds]; omega) (by simp [bnds]; omega) (by omega) (fun q hq => by
    obtain ⟨r, hr, rfl⟩ := List.mem_map.mp hq
    exact (hrg r hr).2.2.1) (fun q hq => (hyk q hq).sz)
  have hbs : ∀ q ∈ bnds rs, Gq 4 q := fun q hq => by
    obtain ⟨r, hr, rfl⟩ := List.mem_map.mp hq
    exact (hrg r hr).2.2
  have hbl : (bnds rs).length ≤ 5 := by simp [bnds]; omega
  have hwg := dot_gq (C := 7) hbs hyk hbl (by omega)
  have hmul2 : ys.length * (6 + 1) ≤ 5 * 7 := Nat.mul_le_mul (by omega) (by omega)
  have hworth := fun s => ev_dot (fuel := fuel) (d := d) (st := s) (A := 6) (x := .lst (ys.map qD)) (y := .lst ((bnds rs).map qD)) (.inl rfl) (.inl rfl) (by simp [bnds]; omega) (fun q hq r hr => ⟨((hyk q hq).sz.mul (hbs r hr).1).mono (by omega), 2, 4, (hyk q hq).sz, (hbs r hr).1, by omega⟩) (by omega)
  rw [dotR_comm] at hwg
  generalize hw : dotR ys (bnds rs) = w at *
  obtain ⟨f0, f1⟩ := fmod_in ds[39] 3 (by omega)
  have hhalf := fun s => ev_lratio (fuel := fuel) (d := d + 2) (st := s) (B := 2) ((1 : Int) + ds[39].fmod 3) 2 (by decide) (by unfold Bd; decide) (by omega)
  have hhp : (0 : Rat) < Rat.divInt ((1 : Int) + ds[39].fmod 3) 2 := by
    rw [Rat.divInt_eq_div]
    refine ((div_sign (a := (((1 : Int) + ds[39].fmod 3 : Int) : Rat)) (f := ((2 : Int) : Rat)) (by decide)).2).mpr ?_
    have : 0 < 1 + ds[39].fmod 3 := by omega
    exact_mod_cast this
  have hhg : Gq 3 (Rat.divInt ((1 : Int) + ds[39].fmod 3) 2) := ⟨sz_divInt (by decide) (bd_of (by omega) (by omega)) (by unfold Bd; decide), Six.half _⟩
  generalize Rat.divInt ((1 : Int) + ds[39].fmod 3) 2 = hf at *
  have hbd := fun s => ev_ladd (fuel := fuel) (d := d + 1) (st := s) (-w) hf (sz_neg hwg.1) hhg.1 (by omega)
  rw [← neg_qD] at hbd
  have hbg : Gq 60 (-w + hf) := ⟨((sz_neg hwg.1).add hhg.1).mono (by omega), hwg.2.neg.add hhg.2⟩
  obtain ⟨a0, a1⟩ := fmod_in ds[38] ((rs.length : Int) + 1) (by omega)
  obtain ⟨a, ha⟩ : ∃ a : Nat, ds[38].fmod ((rs.length : Int) + 1) = (a : Int) := ⟨(ds[38].fmod ((rs.length : Int) + 1)).toNat, by omega⟩
  have hal : a ≤ rs.length := by omega
  have hmem : ∀ r ∈ rs.take a ++ [(li, -w + hf)] ++ rs.drop a, r ∈ rs ∨ r = (li, -w + hf) := by
    intro r hr
    rcases List.mem_append.mp hr with hr | hr
    · rcases List.mem_append.mp hr with hr | hr
      · exact .inl (List.mem_of_mem_take hr)
      · exact .inr (by simpa using hr)
    · exact .inl (List.mem_of_mem_drop hr)
  refine ⟨rs.take a ++ [(li, -w + hf)] ++ rs.drop a, ⟨by omega, by simp; omega, fun c hc => (hcg c hc).1.mono (by omega), fun r hr => ?_⟩, ⟨fun c hc => (hcg c hc).2.twe.den, fun r hr => ?_⟩, .bar (fun xs hx0 hxl hxr => ?_) 0, ?_⟩
  · rcases hmem r hr with hr | rfl
    · exact ⟨by rw [(hrg r hr).1, hc], fun x hx => ((hrg r hr).2.1 x hx).1.mono (by omega), (hrg r hr).2.2.1.mono (by omega)⟩
    · exact ⟨by rw [l1, hc], fun x hx => (hlg x hx).1.mono (by omega), hbg.1⟩
  · rcases hmem r hr with hr | rfl
    · exact ⟨fun x hx => ((hrg r hr).2.1 x hx).2.twe.den, (hrg r hr).2.2.2.twe.den⟩
    · exact ⟨fun x hx => (hlg x hx).2.twe.den, hbg.2.twe.den⟩
  · have h1 : -w + hf ≤ dotR li xs := hxr (li, -w + hf) (List.mem_append_left _ (List.mem_append_right _ (by simp)))
    have h2 : ∀ r ∈ rs, r.2 ≤ dotR r.1 xs := fun r hr => hxr r (by
      rw [← List.take_append_drop a rs] at hr
      rcases List.mem_append.mp hr with hr | hr
      · exact List.mem_append_left _ (List.mem_append_left _ hr)
      · exact List.mem_append_right _ hr)
    have h3 : dotR li xs ≤ dotR (ss.map fun s => -s) xs := dot_le xs _ _ hx0 (by simp; omega) fun j hj hj' => by
      have := (l2 j hj).2
      rw [getD_getElem (by omega)] at this
      simpa using this
    rw [dot_negs] at h3
    have h4 := dot_sums rs ys (List.replicate n 0) xs (fun r hr => by rw [List.length_replicate]; exact (hrg r hr).1)
    rw [dot_zeros, hss] at h4
    have h5 : w ≤ dotR ys (rs.map fun r => dotR r.1 xs) := by
      rw [← hw, dotR_comm ys, dotR_comm ys]
      refine dot_le ys _ _ (fun y hy => (hyk y hy).nn) (by simp [bnds]) fun j h h' => ?_
      simp only [bnds, List.getElem_map]
      exact h2 _ (List.getElem_mem _)
    grind
  · rw [call_eq 23 f23 rfl _ [.lst (cs.map qD), rowsD rs, figsD ds] rfl]
    have hs : small n := by unfold small; omega
    have hs2 : small rs.length := by unfold small; omega
    have w1 : ∀ s, wkD s (rowsD rs) = some (.items (rs.map rowD)) := fun _ => rfl
    have hx39 := fun s => idx_figs (st := s) ds 39 (by omega)
    have hx38 := fun s => idx_figs (st := s) ds 38 (by omega)
    have e39 : ((39 : Nat) : Int) = 39 := rfl
    have e38 : ((38 : Nat) : Int) = 38 := rfl
    rw [e39] at hx39
    rw [e38] at hx38
    have hne0 : (rs.length : Int) + 1 ≠ 0 := by omega
    have hbc : ∀ (s : St) (env : En) (p p1 p2 p3 : Pos), (∃ x0 x1 x2 x3 x4 x5 x6 x7 x8 x9 x10 x11, env = [x0, x1, x2, x3, x4, x5, x6, x7, x8, x9, x10, x11]) → compL (turnB (cfgOf pk.pg fuel (callF pk.pg chkC fuel (d + 4))) [11] (.idx p (.var p1 11) (.cst p2 0 (.int 1))) (.name p3 11) .nil env) (rs.map rowD) [] s = .ok ((bnds rs).map qD) s := by
      rintro s env p p1 p2 p3 ⟨x0, x1, x2, x3, x4, x5, x6, x7, x8, x9, x10, x11, rfl⟩
      exact bounds_comp (st := s) rs (fun r => rfl)
    have hbc' := fun s p p1 p2 p3 x0 x1 x2 x3 x4 x5 x6 x7 x8 x9 x10 x11 => hbc s _ p p1 p2 p3 ⟨x0, x1, x2, x3, x4, x5, x6, x7, x8, x9, x10, x11, rfl⟩
    have hst := fun s => slc_to (st := s) rs a hal
    have hsf := fun s => slc_from (st := s) rs a hal
    have hcl : ((cs.map qD).length : Int) = n := by simp [hc]
    have hadd1 : ∀ (A B : List Row) (s : St), A.length + B.length ≤ 1000 → binD .add false (rowsD A) (rowsD B) s = .ok (rowsD (A ++ B)) s := by
      intro A B s hAB
      show (if (A.map rowD).length + (B.map rowD).length ≤ lim then mkL false (A.map rowD ++ B.map rowD) s else .bad) = _
      rw [if_pos (by simp; unfold lim; omega)]
      simp [rowsD]
    have e1 : D.lst [.tup [.lst (li.map qD), qD (-w + hf)]] = rowsD [(li, -w + hf)] := rfl
    have hq1 := fun s => hadd1 (rs.take a) [(li, -w + hf)] s (by simp; omega)
    have hq2 := fun s => hadd1 (rs.take a ++ [(li, -w + hf)]) (rs.drop a) s (by simp; omega)
    have hnr : nrs (cs.map qD) = true := nrs_map _ nr_qD _
    unfold ce23_0 ct23_0 at y3
    unfold ce23_1 ct23_1 at l3
    unfold worldD
    generalize hR' : rs.take a ++ [(li, -w + hf)] ++ rs.drop a = R' at *
    unfold runF f23 b23
    simp [hs, hs2, hc, y3, hsum, l3, w1, hbc', hworth, hx39, hx38, hhalf, hbd, hne0, ha, hst, hsf, e1, hq1, hq2, hnr]
end W86
set_option linter.all false
set_option maxRecDepth 100000
set_option maxHeartbeats 2000000
/-! W34: numbers with a falling direction. -/
namespace W86
open PySem MP I86
variable {fuel d : Nat} {st : St}
/-- a list of ratios, read by places -/
structure IsV (st : St) (x : D) (qs : List Rat) : Prop where
  get : ∀ env : En, getV (some x :: env) 0 = some x
  idx : ∀ k (hk : k < qs.length), idxD st x (.int k) = some (qD qs[k])
  len : ∀ m, biD .len m [x] st = .ok (.int qs.length) st
theorem IsQ.v {x : D} {qs : List Rat} (h : IsQ x qs) (st : St) : IsV st x qs := ⟨h.get, fun k hk => h.idx k hk, fun m => h.len⟩
theorem ref_v {st : St} {k : Nat} {qs : List Rat} (h : st[k]? = some (.lst (qs.map qD))) : IsV st (.ref k) qs := by
  refine ⟨fun _ => rfl, fun j hj => ?_, fun m => ?_⟩
  · rw [idx_ref h j (by simpa using hj)]; simp
  · rw [len_ref h]; simp
theorem dot_loopV {A : Nat} {x y : D} {xs ys : List Rat} (hx : IsV st x xs) (hy : IsV st y ys) (hl : xs.length ≤ ys.length) (hA : ∀ q ∈ xs, ∀ r ∈ ys, Sz A (q * r) ∧ ∃ B C, Sz B q ∧ Sz C r ∧ B + C ≤ A) (p : Pos) :
    ∀ (m i : Nat) (t : Rat) (k0 : Option D), i + m = xs.length → Sz (i * (A + 1) + 1) t → xs.length * (A + 1) + A + 1 ≤ 4499 → ∃ k1, forL (stepB (cfgOf pk.pg fuel (callF pk.pg chkC fuel (d + 3))) (.name p 3) dotB) (rangeL i xs.length) [some x, some y, some (qD t), k0] st = .next [some x, some y, some (qD (t + dotR (xs.drop i) (ys.drop i))), k1] st
  | 0, i, t, k0, hi, ht, hb => by
    rw [range_nil _ _ (by omega)]
    refine ⟨k0, ?_⟩
    unfold forL
    rw [List.drop_eq_nil_of_le (by omega)]
    have e : dotR [] (ys.drop i) = 0 := by cases ys.drop i <;> rfl
    rw [e, Rat.add_zero]
  | m + 1, i, t, k0, hi, ht, hb => by
    rw [range_cons _ _ (by omega)]
    unfold forL
    have h1 : i < xs.length := by omega
    have h2 : i < ys.length := by omega
    obtain ⟨hs, B, C, hB, hC, hBC⟩ := hA _ (List.getElem_mem h1) _ (List.getElem_mem h2)
    have hmul : xs.length * (A + 1) ≥ (i + 1) * (A + 1) := Nat.mul_le_mul_right _ (by omega)
    have e1 : (i + 1) * (A + 1) = i * (A + 1) + (A + 1) := by rw [Nat.add_mul, Nat.one_mul]
    have m1 := ev_lmul (fuel := fuel) (d := d) (st := st) _ _ hB hC (by omega)
    have a1 := ev_ladd (fuel := fuel) (d := d) (st := st) _ _ ht hs (by omega)
    have hsum := (ht.add hs).mono (show i * (A + 1) + 1 + A + 1 ≤ (i + 1) * (A + 1) + 1 by omega)
    obtain ⟨k1, ih⟩ := dot_loopV hx hy hl hA p m (i + 1) (t + xs[i] * ys[i]) (some (.int i)) (by omega) hsum hb
    refine ⟨k1, ?_⟩
    have hcast : ((i + 1 : Nat) : Int) = (i : Int) + 1 := by omega
    rw [hcast] at ih
    rw [List.drop_eq_getElem_cons h1, List.drop_eq_getElem_cons h2]
    have e2 : t + dotR (xs[i] :: xs.drop (i + 1)) (ys[i] :: ys.drop (i + 1)) = t + xs[i] * ys[i] + dotR (xs.drop (i + 1)) (ys.drop (i + 1)) := by
      show t + (_ + _) = _
      rw [Rat.add_assoc]
    rw [e2]
    have step : stepB (cfgOf pk.pg fuel (callF pk.pg chkC fuel (d + 3))) (.name p 3) dotB (.int i) [some x, some y, some (qD t), k0] st = .next [some x, some y, some (qD (t + xs[i] * ys[i])), some (.int i)] st := by
      simp [dotB, b14, hx.get, hy.get, hx.idx i h1, hy.idx i h2, m1, a1]
    rw [step]
    exact ih
theorem ev_dotV {A : Nat} {x y : D} {xs ys : List Rat} (hx : IsV st x xs) (hy : IsV st y ys) (hl : xs.length ≤ ys.length) (hA : ∀ q ∈ xs, ∀ r ∈ ys, Sz A (q * r) ∧ ∃ B C, Sz B q ∧ Sz C r ∧ B + C ≤ A) (hb : xs.length * (A + 1) + A + 1 ≤ 4499) :
    callF pk.pg chkC fuel (d + 4) 14 [x, y] st = .ok (qD (dotR xs ys)) st := by
  rw [call_eq 14 f14 rfl _ [x, y] rfl]
  unfold runF f14 b14
  have z : Sz (0 * (A + 1) + 1) 0 := ⟨by unfold Bd; simp, by unfold Bd; simp⟩
  obtain ⟨k1, h⟩ := dot_loopV (fuel := fuel) (d := d) (st := st) hx hy hl hA (tgP b14 1) xs.length 0 0 none (by omega) z hb
  simp [dotB, b14, tgP] at h
  have hs : small xs.length := by
    unfold small
    have : xs.length ≤ 4499 := by
      have : xs.length * 1 ≤ xs.length * (A + 1) := Nat.mul_le_mul_left _ (by omega)
      omega
    omega
  have e0 : D.tup [.int 0, .int 1] = qD 0 := rfl
  simp [hx.get, hx.len, hs, e0, h, Rat.zero_add]
theorem ev_dotW {B : Nat} {x y : D} {xs ys : List Rat} (hx : IsV st x xs) (hy : IsV st y ys) (hl : xs.length ≤ ys.length) (h6 : xs.length ≤ 6) (hB : B ≤ 400) (hxs : ∀ q ∈ xs, Sz B q) (hys : ∀ q ∈ ys, Sz 2 q) :
    callF pk.pg chkC fuel (d + 4) 14 [x, y] st = .ok (qD (dotR xs ys)) st := by
  have : xs.length * (B + 2 + 1) ≤ 6 * 403 := Nat.mul_le_mul h6 (by omega)
  exact ev_dotV (A := B + 2) hx hy hl (fun q hq r hr => ⟨(hxs q hq).mul (hys r hr), B, 2, hxs q hq, hys r hr, by omega⟩) (by omega)
/-- what the kept rows fulfil -/
def KeptOk (n : Nat) (xs ws : List Rat) (r : Row) : Prop := r.1.length = n ∧ (∀ x ∈ r.1, Gq 3 x) ∧ Gq 40 r.2 ∧ r.2 ≤ dotR r.1 xs ∧ 0 ≤ dotR r.1 ws
theorem ray_rows {n : Nat} {rs : List Row} {ds : List Int} {xs ws : List Rat} (hm : rs.length ≤ 5) (hd : ds.length = 40) (hrg : ∀ r ∈ rs, r.1.length = n ∧ (∀ x ∈ r.1, Gq 3 x)) (hn : n ≤ 5) (hx : xs.length = n) (hxk : ∀ x ∈ xs, Nk x) (hwl : ws.length = n) (hws : ∀ x ∈ ws, Sz 2 x) (a0 a8 a9 a10 : Option D) :
    ∀ (m i : Nat) (acc : List Row) (k0 b0 : Option D), i + m = rs.length → acc.length = i → (∀ r ∈ acc, KeptOk n xs ws r) →
    ∃ (acc' : List Row) (k1 b1 : Option D), acc'.length = rs.length ∧ (∀ r ∈ acc', KeptOk n xs ws r) ∧ forL (stepB (cfgOf pk.pg fuel (callF pk.pg chkC fuel (d + 4))) lt24_0 lb24_0) (rangeL i rs.length) [a0, some (rowsD rs), some (figsD ds), some (.lst (xs.map qD)), some (.ref st.length), some (.ref (st.length + 1)), k0, b0, a8, a9, a10, none] (st ++ [SO.lst (ws.map qD), SO.lst (acc.map rowD)]) =
      .next [a0, some (rowsD rs), some (figsD ds), some (.lst (xs.map qD)), some (.ref st.length), some (.ref (st.length + 1)), k1, b1, a8, a9, a10, none] (st ++ [SO.lst (ws.map qD), SO.lst (acc'.map rowD)])
  | 0, i, acc, k0, b0, hi, ha, hf => by
    rw [range_nil _ _ (by omega)]
    exact ⟨acc, k0, b0, by omega, hf, by unfold forL; rfl⟩
  | m + 1, i, acc, k0, b0, hi, ha, hf => by
    rw [range_cons _ _ (by omega)]
    unfold forL
    have h1 : i < rs.length := by omega
    have hlim : (acc.map rowD).length < lim := by
      rw [List.length_map, ha]; unfold lim; omega
    obtain ⟨l1, l2⟩ := hrg _ (List.getElem_mem h1)
    generalize hst1 : st ++ [SO.lst (ws.map qD), SO.lst (acc.map rowD)] = st1
    have hw0 : st1[st.length]? = some (.lst (ws.map qD)) := by rw [← hst1]; simp
    have hk0 : st1[st.length + 1]? = some (.lst (acc.map rowD)) := by rw [← hst1]; simp
    have hrow := idx_rows (st := st1) rs i h1
    have hwv := ref_v hw0
    have hapT := bmT_ref hk0
    have hap := fun x => bm_append hk0 x hlim false
    have hxd := idx_figs (st := st1) ds (30 + i) (by omega)
    have e : ((30 + i : Nat) : Int) = 30 + (i : Int) := by simp
    rw [e] at hxd
    obtain ⟨f0, f1⟩ := fmod_in ds[30 + i] 3 (by omega)
    have hneg : Gq 2 (((-(ds[30 + i].fmod 3) : Int)) : Rat) := ⟨int_sz (by omega) (Bd.neg (bd_of f0 (by omega))), Six.int _⟩
    have hneg0 : (((-(ds[30 + i].fmod 3) : Int)) : Rat) ≤ 0 := by
      have h0 : -(ds[30 + i].fmod 3) ≤ 0 := by omega
      exact_mod_cast h0
    generalize ds[30 + i] = di at *
    have main : ∀ l : List Rat, l.length = n → (∀ x ∈ l, Gq 3 x) → callF pk.pg chkC fuel (d + 4) 14 [.lst (l.map qD), .lst (xs.map qD)] st1 = .ok (qD (dotR l xs)) st1 ∧ callF pk.pg chkC fuel (d + 4) 9 [qD (dotR l xs), .tup [.int (-(di.fmod 3)), .int 1]] st1 = .ok (qD (dotR l xs + ((-(di.fmod 3) : Int) : Rat))) st1 ∧ callF pk.pg chkC fuel (d + 4) 14 [.lst (l.map qD), .ref st.length] st1 = .ok (qD (dotR l ws)) st1 ∧ Gq 40 (dotR l xs + ((-(di.fmod 3) : Int) : Rat)) := by
      intro l hl hg
      have hdg := dot_gq (C := 6) hg hxk (by omega) (by omega)
      refine ⟨ev_dotN (B := 3) (.inl rfl) (.inl rfl) (by omega) (by omega) (by omega) (fun q hq => (hg q hq).1) (fun q hq => (hxk q hq).sz), ?_, ?_, ⟨(hdg.1.add hneg.1).mono (by omega), hdg.2.add hneg.2⟩⟩
      · rw [int_qD]
        exact ev_ladd (fuel := fuel) (d := d + 1) (st := st1) _ _ hdg.1 hneg.1 (by omega)
      · exact ev_dotW (B := 3) (IsQ.v (.inl rfl) st1) hwv (by omega) (by omega) (by omega) (fun q hq => (hg q hq).1) hws
    have hgl : rs[i].1.length = n := l1
    generalize hli : rs[i].1 = li at *
    have hrow' : idxD st1 (rowsD rs) (.int i) = some (rowD rs[i]) := hrow
    have hr0 : idxD st1 (rowD rs[i]) (.int 0) = some (.lst (li.map qD)) := by rw [← hli]; exact idx_row0 _
    generalize rs[i] = ri at *
    have hneg2 : ∀ (c : Cfg) (p1 p2 p3 p4 p5 p6 p7 p8 : Pos) (env : En) (s : St), (∃ x0 x1 x2 x3 x4 x5 x6 x7 x8 x9 x10 x11, env = [x0, x1, x2, x3, x4, x5, x6, x7, x8, x9, x10, x11]) → compL (turnB c [11] (.tup p1 0 (.cons (.neg p2 (.idx p3 (.var p4 11) (.cst p5 0 (.int 0)))) (.cons (.idx p6 (.var p7 11) (.cst p8 0 (.int 1))) .nil))) ct24_2 .nil env) (li.map qD) [] s = .ok ((li.map fun q => -q).map qD) s := by
      rintro c p1 p2 p3 p4 p5 p6 p7 p8 env s ⟨x0, x1, x2, x3, x4, x5, x6, x7, x8, x9, x10, x11, rfl⟩
      rw [compL_mapped (g := qD) (h := fun q => qD (-q)) li [] fun q hq => ?_]
      · simp
      · unfold ct24_2
        rw [turn_name]
        simp [neg_qD]
    have hneg2' := fun c p1 p2 p3 p4 p5 p6 p7 p8 s x0 x1 x2 x3 x4 x5 x6 x7 x8 x9 x10 x11 => hneg2 c p1 p2 p3 p4 p5 p6 p7 p8 _ s ⟨x0, x1, x2, x3, x4, x5, x6, x7, x8, x9, x10, x11, rfl⟩
    unfold ct24_2 at hneg2'
    obtain ⟨b, hb1, hb2⟩ : ∃ r : Row, KeptOk n xs ws r ∧ stepB (cfgOf pk.pg fuel (callF pk.pg chkC fuel (d + 4))) lt24_0 lb24_0 (.int i) [a0, some (rowsD rs), some (figsD ds), some (.lst (xs.map qD)), some (.ref st.length), some (.ref (st.length + 1)), k0, b0, a8, a9, a10, none] st1 =
        .next [a0, some (rowsD rs), some (figsD ds), some (.lst (xs.map qD)), some (.ref st.length), some (.ref (st.length + 1)), some (.int i), some (.lst (r.1.map qD)), a8, a9, a10, none] (st1.set (st.length + 1) (.lst (acc.map rowD ++ [rowD r]))) := by
      have e2 : ∀ (l : List Rat) (b : Rat), D.tup [.lst (l.map qD), qD b] = rowD (l, b) := fun _ _ => rfl
      obtain ⟨m1, m2, m3, m4⟩ := main li l1 l2
      by_cases hz : (dotR li ws).num < 0
      · have hl' : (li.map fun q => -q).length = n := by simpa using l1
        obtain ⟨n1, n2, n3, n4⟩ := main (li.map fun q => -q) hl' (fun x hx => by
          obtain ⟨q, hq, rfl⟩ := List.mem_map.mp hx
          exact ⟨sz_neg (l2 q hq).1, (l2 q hq).2.neg⟩)
        refine ⟨(li.map fun q => -q, dotR (li.map fun q => -q) xs + ((-(di.fmod 3) : Int) : Rat)), ⟨hl', fun x hx => by
          obtain ⟨q, hq, rfl⟩ := List.mem_map.mp hx
          exact ⟨sz_neg (l2 q hq).1, (l2 q hq).2.neg⟩, n4, ?_, ?_⟩, ?_⟩
        · show dotR (li.map fun q => -q) xs + _ ≤ dotR (li.map fun q => -q) xs
          grind
        · show 0 ≤ dotR (li.map fun q => -q) ws
          rw [dot_negs]
          have h5 : ¬ 0 ≤ dotR li ws := fun z => by
            have := Rat.num_nonneg.mpr z
            omega
          grind
        · generalize hnl : li.map (fun q => -q) = nl at *
          unfold lt24_0 lb24_0
          simp [hrow', hr0, m3, hz, wk_lst, hneg2', n1, n2, hxd, e2, hapT, hap]
      · refine ⟨(li, dotR li xs + ((-(di.fmod 3) : Int) : Rat)), ⟨l1, l2, m4, ?_, ?_⟩, ?_⟩
        · show dotR li xs + _ ≤ dotR li xs
          grind
        · exact (Rat.num_nonneg (q := dotR li ws)).mp (by omega)
        · unfold lt24_0 lb24_0
          simp [hrow', hr0, m3, hz, m1, m2, hxd, e2, hapT, hap]
    obtain ⟨acc2, k2, b2, g1, g2, g3⟩ := ray_rows hm hd hrg hn hx hxk hwl hws a0 a8 a9 a10 m (i + 1) (acc ++ [b]) (some (.int i)) (some (.lst (b.1.map qD))) (by omega) (by simp [ha]) (by
      intro r hr
      rcases List.mem_append.mp hr with hr | hr
      · exact hf r hr
      · have : r = b := by simpa using hr
        rw [this]; exact hb1)
    have e2 : ((i + 1 : Nat) : Int) = (i : Int) + 1 := by omega
    rw [e2] at g3
    have e3 : st1.set (st.length + 1) (.lst (acc.map rowD ++ [rowD b])) = st ++ [SO.lst (ws.map qD), SO.lst ((acc ++ [b]).map rowD)] := by
      rw [← hst1]
      simp
    exact ⟨acc2, k2, b2, g1, g2, by rw [hb2, e3]; exact g3⟩
theorem dot_set : ∀ (cs ws : List Rat) (a : Nat) (x : Rat), a < cs.length → cs.length = ws.length → dotR (cs.set a (cs.getD a 0 + x)) ws = dotR cs ws + x * ws.getD a 0
  | [], _, _, _, h, _ => absurd h (by simp)
  | _ :: _, [], _, _, _, h => by cases h
  | c :: cs, w :: ws, 0, x, _, _ => by
    show dotR ((c + x) :: cs) (w :: ws) = dotR (c :: cs) (w :: ws) + x * w
    rw [dotR_cons, dotR_cons]; grind
  | c :: cs, w :: ws, a + 1, x, h, hl => by
    have ih := dot_set cs ws a x (by simpa using h) (by simpa using hl)
    show dotR (c :: cs.set a (cs.getD a 0 + x)) (w :: ws) = dotR (c :: cs) (w :: ws) + x * ws.getD a 0
    rw [dotR_cons, dotR_cons, ih]; grind
end W86
set_option linter.all false
set_option maxRecDepth 100000
set_option maxHeartbeats 2000000
/-! W35: numbers with a falling direction, whole. -/
namespace W86
open PySem MP I86
variable {fuel d : Nat} {st : St}
theorem ev_withRay {n : Nat} {cs : List Rat} {rs : List Row} {ds : List Int} (h : Drawn n cs rs ds) (hn0 : 0 < n) :
    ∃ (cs' : List Rat) (rs' : List Row), cs'.length = n ∧ GivZ cs' rs' ∧ GivT cs' rs' ∧ Plan cs' rs' 3 0 ∧ callF pk.pg chkC fuel (d + 5) 24 [.lst (cs.map qD), rowsD rs, figsD ds] st = .ok (worldD cs' rs') st := by
  obtain ⟨hn, hc, hm, hd, hcg, hrg⟩ := h
  obtain ⟨xs, x1, x2, x3⟩ := compL_ix0 (st := st) (R := fun _ q => Nk q) (n := n) (body := turnB (cfgOf pk.pg fuel (callF pk.pg chkC fuel (d + 4))) [10] ce24_0 ct24_0 .nil [some (.lst (cs.map qD)), some (rowsD rs), some (figsD ds), none, none, none, none, none, none, none, none, none]) (by
    intro j hj
    have hx := idx_figs (st := st) ds j (by omega)
    obtain ⟨f0, f1⟩ := fmod_in ds[j] 3 (by omega)
    refine ⟨((ds[j].fmod 3 : Int) : Rat), ⟨_, f0, by omega, rfl⟩, ?_⟩
    unfold ct24_0
    rw [turn_name]
    simp [ce24_0, hx, int_qD])
  obtain ⟨w0, w1, w2, w3⟩ := compL_ix0 (st := st) (R := fun _ q => Nk q) (n := n) (body := turnB (cfgOf pk.pg fuel (callF pk.pg chkC fuel (d + 4))) [10] ce24_1 ct24_1 .nil [some (.lst (cs.map qD)), some (rowsD rs), some (figsD ds), some (.lst (xs.map qD)), none, none, none, none, none, none, none, none]) (by
    intro j hj
    have hx := idx_figs (st := st) ds (20 + j) (by omega)
    have e : ((20 + j : Nat) : Int) = 20 + (j : Int) := by simp
    rw [e] at hx
    obtain ⟨f0, f1⟩ := fmod_in ds[20 + j] 3 (by omega)
    refine ⟨((ds[20 + j].fmod 3 : Int) : Rat), ⟨_, f0, by omega, rfl⟩, ?_⟩
    unfold ct24_1
    rw [turn_name]
    simp [ce24_1, hx, int_qD])
  have hxk : ∀ x ∈ xs, Nk x := fun x hx => by
    obtain ⟨j, hj, h⟩ := mem_of_idx x2 hx
    exact h
  have hwk : ∀ x ∈ w0, Nk x := fun x hx => by
    obtain ⟨j, hj, h⟩ := mem_of_idx w2 hx
    exact h
  obtain ⟨a0, a1⟩ := fmod_in ds[38] (n : Int) (by omega)
  obtain ⟨a, ha⟩ : ∃ a : Nat, ds[38].fmod (n : Int) = (a : Int) := ⟨(ds[38].fmod (n : Int)).toNat, by omega⟩
  have han : a < n := by omega
  have hhs : Sz 2 (Rat.divInt 1 2) := ⟨by unfold Bd; decide +kernel, by unfold Bd; decide +kernel⟩
  have hhq : D.tup [.int 1, .int 2] = qD (Rat.divInt 1 2) := by
    have e1 : (Rat.divInt 1 2).num = 1 := by decide +kernel
    have e2 : (Rat.divInt 1 2).den = 2 := by decide +kernel
    unfold qD
    rw [e1, e2]; rfl
  have hhalf : Rat.divInt 1 2 = 1 / 2 := by rw [Rat.divInt_eq_div]; rfl
  generalize hws : w0.set a (Rat.divInt 1 2) = ws
  have hwl : ws.length = n := by rw [← hws, List.length_set]; exact w1
  have hwm : ∀ w ∈ ws, Nk w ∨ w = Rat.divInt 1 2 := by
    intro w hw
    rw [← hws] at hw
    rcases List.mem_or_eq_of_mem_set hw with h | h
    · exact .inl (hwk w h)
    · exact .inr h
  have hwz : ∀ w ∈ ws, Sz 2 w := fun w hw => by
    rcases hwm w hw with h | rfl
    · exact h.sz
    · exact hhs
  have hwn : ∀ w ∈ ws, 0 ≤ w := fun w hw => by
    rcases hwm w hw with h | rfl
    · exact h.nn
    · rw [hhalf]; grind
  have hwa : ws.getD a 0 = 1 / 2 := by
    rw [← hws, ← hhalf]
    simp [w1, han]
  obtain ⟨rs', k1, b1, r1, r2, r3⟩ := ray_rows (fuel := fuel) (d := d) (st := st) (n := n) (ws := ws) hm hd (fun r hr => ⟨(hrg r hr).1, (hrg r hr).2.1⟩) hn x1 hxk hwl hwz (some (.lst (cs.map qD))) none none none rs.length 0 [] none none (by omega) rfl (fun r hr => by cases hr)
  -- the fall
  have hdot : ∀ s, IsV s (.ref st.length) ws → callF pk.pg chkC fuel (d + 4) 14 [.lst (cs.map qD), .ref st.length] s = .ok (qD (dotR cs ws)) s := fun s hs => ev_dotW (B := 4) (IsQ.v (.inl rfl) s) hs (by omega) (by omega) (by omega) (fun q hq => (hcg q hq).1) hwz
  have hfz : Sz 36 (dotR cs ws) := by
    refine (dotR_sz (A := 6) cs ws fun q hq r hr => ((hcg q hq).1.mul (hwz r hr)).mono (by omega)).mono ?_
    have : cs.length * (6 + 1) ≤ 5 * 7 := Nat.mul_le_mul (by omega) (by omega)
    omega
  have hft : Twe (dotR cs ws) := by
    have go : ∀ (cs ws : List Rat), (∀ c ∈ cs, Six c) → (∀ w ∈ ws, Nk w ∨ w = Rat.divInt 1 2) → Twe (dotR cs ws) := by
      intro cs
      induction cs with
      | nil => intro ws _ _; rw [dotR_nil']; exact Six.zero.twe
      | cons c cs ih =>
        intro ws hc hw
        cases ws with
        | nil => rw [dotR_nil]; exact Six.zero.twe
        | cons w ws =>
          rw [dotR_cons]
          refine Twe.add ?_ (ih ws (fun x hx => hc x (List.mem_cons_of_mem _ hx)) fun x hx => hw x (List.mem_cons_of_mem _ hx))
          have h1 := hc c List.mem_cons_self
          rcases hw w List.mem_cons_self with h | rfl
          · obtain ⟨k, rfl⟩ := h.int
            rw [Rat.mul_comm]
            exact Twe.imul k h1.twe
          · obtain ⟨i, hi⟩ := h1
            refine ⟨i, ?_⟩
            rw [hhalf, ← hi]; grind
    exact go cs ws (fun c hc => (hcg c hc).2) hwm
  have hgivr : ∀ cs' : List Rat, cs'.length = n → (∀ c ∈ cs', Sm c ∧ Twe c) → GivZ cs' rs' ∧ GivT cs' rs' := by
    intro cs' hl hcs
    refine ⟨⟨by omega, by omega, fun c hc => (hcs c hc).1, fun r hr => ?_⟩, ⟨fun c hc => (hcs c hc).2.den, fun r hr => ?_⟩⟩
    · obtain ⟨k1, k2, k3, k4, k5⟩ := r2 r hr
      exact ⟨by rw [k1, hl], fun x hx => (k2 x hx).1.mono (by omega), k3.1.mono (by omega)⟩
    · obtain ⟨k1, k2, k3, k4, k5⟩ := r2 r hr
      exact ⟨fun x hx => (k2 x hx).2.twe.den, k3.2.twe.den⟩
  have hplan : ∀ cs' : List Rat, dotR cs' ws < 0 → Plan cs' rs' 3 0 := fun cs' hneg =>
    .ray xs ws (fun x hx => (hxk x hx).nn) (fun r hr => (r2 r hr).2.2.2.1) hwn (fun r hr => (r2 r hr).2.2.2.2) hneg 0
  -- the run
  have hs : small n := by unfold small; omega
  have hs2 : small rs.length := by unfold small; omega
  have hx38 := fun s => idx_figs (st := s) ds 38 (by omega)
  have e38 : ((38 : Nat) : Int) = 38 := rfl
  rw [e38] at hx38
  have hne0 : ¬ n = 0 := by omega
  have hset1 : setD (.ref st.length) (.int a) (qD (Rat.divInt 1 2)) (st ++ [SO.lst (w0.map qD)]) = some (st ++ [SO.lst (ws.map qD)]) := by
    rw [set_end, ixN_nat _ _ (by simpa [w1] using han), ← hws]
    simp [List.map_set]
  have hstW : ∀ tl, IsV (st ++ (SO.lst (ws.map qD) :: tl)) (.ref st.length) ws := fun tl => ref_v (by simp)
  have hdot' := fun tl => hdot _ (hstW tl)
  have hfr1 : ∀ (cq : List Rat), frz 6 (.ref (st.length + 2)) (st ++ [SO.lst (ws.map qD), SO.lst (rs'.map rowD), SO.lst (cq.map qD)]) = some (.lst (cq.map qD), st ++ [SO.lst (ws.map qD), SO.lst (rs'.map rowD), SO.dead]) := by
    intro cq
    have e : (st ++ [SO.lst (ws.map qD), SO.lst (rs'.map rowD), SO.lst (cq.map qD)]).set (st.length + 2) .dead = st ++ [SO.lst (ws.map qD), SO.lst (rs'.map rowD), SO.dead] := by
      rw [List.set_append_right _ _ (by omega)]
      have : st.length + 2 - st.length = 2 := by omega
      rw [this]; rfl
    rw [← e]
    exact frz_at (by rw [List.getElem?_append_right (by omega)]; have : st.length + 2 - st.length = 2 := by omega
                     rw [this]; rfl) (plain_q cq)
  have hfr2 : frz 6 (.ref (st.length + 1)) (st ++ [SO.lst (ws.map qD), SO.lst (rs'.map rowD), SO.dead]) = some (.lst (rs'.map rowD), st ++ [SO.lst (ws.map qD), SO.dead, SO.dead]) := by
    have e : (st ++ [SO.lst (ws.map qD), SO.lst (rs'.map rowD), SO.dead]).set (st.length + 1) .dead = st ++ [SO.lst (ws.map qD), SO.dead, SO.dead] := by
      rw [List.set_append_right _ _ (by omega)]
      have : st.length + 1 - st.length = 1 := by omega
      rw [this]; rfl
    rw [← e]
    exact frz_at (by rw [List.getElem?_append_right (by omega)]; have : st.length + 1 - st.length = 1 := by omega
                     rw [this]; rfl) (plain_r rs')
  have hC : (st ++ [SO.lst (ws.map qD), SO.lst (rs'.map rowD), SO.lst (cs.map qD)])[st.length + 2]? = some (.lst (cs.map qD)) := by
    rw [List.getElem?_append_right (by omega)]
    have : st.length + 2 - st.length = 2 := by omega
    rw [this]; rfl
  have hCl : ∀ m, biD .len m [.ref (st.length + 2)] (st ++ [SO.lst (ws.map qD), SO.lst (rs'.map rowD), SO.lst (cs.map qD)]) = .ok (.int n) (st ++ [SO.lst (ws.map qD), SO.lst (rs'.map rowD), SO.lst (cs.map qD)]) := by
    intro m
    rw [len_ref hC]; simp [hc]
  have hCi : idxD (st ++ [SO.lst (ws.map qD), SO.lst (rs'.map rowD), SO.lst (cs.map qD)]) (.ref (st.length + 2)) (.int a) = some (qD (cs.getD a 0)) := by
    rw [idx_ref hC a (by simpa [hc] using han)]
    have : a < cs.length := by omega
    simp [this]
  have hCs : ∀ v, setD (.ref (st.length + 2)) (.int a) (qD v) (st ++ [SO.lst (ws.map qD), SO.lst (rs'.map rowD), SO.lst (cs.map qD)]) = some (st ++ [SO.lst (ws.map qD), SO.lst (rs'.map rowD), SO.lst ((cs.set a v).map qD)]) := by
    intro v
    rw [set_ref hC a (by simpa [hc] using han), List.set_append_right _ _ (by omega)]
    have : st.length + 2 - st.length = 2 := by omega
    rw [this]
    simp [List.map_set]
  have hnrR : nrs (rs'.map rowD) = true := nrs_map _ nr_rowD _
  have hl1 : ∀ (qs : List Rat) (s : St), biD .list1 true [.lst (qs.map qD)] s = .ok (.ref s.length) (s ++ [.lst (qs.map qD)]) := fun _ _ => rfl
  unfold ce24_0 ct24_0 at x3
  unfold ce24_1 ct24_1 at w3
  unfold lt24_0 lb24_0 at r3
  simp only [show ((0 : Nat) : Int) = 0 from rfl, List.map_nil] at r3
  have c24 := call_eq (fuel := fuel) (d := d + 4) (st := st) 24 f24 rfl [.lst (cs.map qD), rowsD rs, figsD ds] [.lst (cs.map qD), rowsD rs, figsD ds] rfl
  have er : rowsD rs' = .lst (rs'.map rowD) := rfl
  by_cases hz : 0 ≤ (dotR cs ws).num
  · have hfnn := Rat.num_nonneg.mp hz
    have hone : Sz 2 (1 : Rat) := one_sz (by omega)
    have h1 := fun s => ev_ladd (fuel := fuel) (d := d + 1) (st := s) _ _ hfz hone (by omega)
    have e1 : qD 1 = .tup [.int 1, .int 1] := rfl
    rw [e1] at h1
    have hs1 := hfz.add hone
    have hm2 : Sz 2 (((-2 : Int)) : Rat) := int_sz (by omega) (by unfold Bd; decide)
    have h2 := fun s => ev_lmul (fuel := fuel) (d := d + 1) (st := s) _ _ hm2 hs1 (by omega)
    rw [← int_qD] at h2
    have hs2' := hm2.mul hs1
    have hca : cs.getD a 0 ∈ cs := by
      have : a < cs.length := by omega
      rw [getD_getElem this]; exact List.getElem_mem this
    have h3 := fun s => ev_ladd (fuel := fuel) (d := d + 1) (st := s) (cs.getD a 0) _ (hcg _ hca).1 hs2' (by omega)
    have hgv := hgivr (cs.set a (cs.getD a 0 + ((-2 : Int) : Rat) * (dotR cs ws + 1))) (by rw [List.length_set]; exact hc) (by
      intro c hc'
      rcases List.mem_or_eq_of_mem_set hc' with h | rfl
      · exact ⟨(hcg c h).1.mono (by omega), (hcg c h).2.twe⟩
      · exact ⟨((hcg _ hca).1.add hs2').mono (by omega), (hcg _ hca).2.twe.add (Twe.imul (-2) (hft.add (Six.int 1).twe))⟩)
    refine ⟨cs.set a (cs.getD a 0 + ((-2 : Int) : Rat) * (dotR cs ws + 1)), rs', by rw [List.length_set]; exact hc, hgv.1, hgv.2, hplan _ ?_, ?_⟩
    · rw [dot_set cs ws a _ (by omega) (by omega), hwa]
      have : ((-2 : Int) : Rat) = -2 := rfl
      rw [this]; grind
    · generalize hnc : cs.set a (cs.getD a 0 + ((-2 : Int) : Rat) * (dotR cs ws + 1)) = nc at *
      have hCs' := hCs (cs.getD a 0 + ((-2 : Int) : Rat) * (dotR cs ws + 1))
      rw [hnc] at hCs'
      have hnrC : nrs (nc.map qD) = true := nrs_map _ nr_qD _
      generalize ((-2 : Int) : Rat) * (dotR cs ws + 1) = v2 at *
      generalize dotR cs ws + 1 = v1 at *
      generalize dotR cs ws = v0 at *
      generalize cs.getD a 0 = ca at *
      rw [c24]
      unfold worldD
      rw [er]
      unfold runF f24 b24
      simp [hs, hs2, hc, x3, w3, hx38, hne0, ha, hhq, setK, hset1, r3, hdot', hz, hl1, hCl, hCi, h1, h2, h3, hCs', frzS, hfr1, hfr2, hnrR, hnrC]
  · have hfn : dotR cs ws < 0 := by
      have : ¬ 0 ≤ dotR cs ws := fun z => hz (Rat.num_nonneg.mpr z)
      exact Rat.not_le.mp this
    have hgv := hgivr cs hc (fun c hc' => ⟨(hcg c hc').1.mono (by omega), (hcg c hc').2.twe⟩)
    refine ⟨cs, rs', hc, hgv.1, hgv.2, hplan _ hfn, ?_⟩
    have hnrC : nrs (cs.map qD) = true := nrs_map _ nr_qD _
    rw [c24]
    unfold worldD
    rw [er]
    unfold runF f24 b24
    simp [hs, hs2, hc, x3, w3, hx38, hne0, ha, hhq, setK, hset1, r3, hdot', hz, hl1, frzS, hfr1, hfr2, hnrR, hnrC]
end W86
set_option linter.all false
set_option maxRecDepth 100000
set_option maxHeartbeats 2000000
/-! W36: the law. -/
namespace W86
open PySem MP I86
variable {fuel d : Nat} {st : St}
def pq (q : Rat) : PyData := .tuple [.int q.num, .int q.den]
def pr (r : Row) : PyData := .tuple [.list (r.1.map pq), pq r.2]
theorem eqv_pq (q : Rat) : PyData.eqv (pq q) (pq q) = true := by simp [pq, PyData.eqv, PyData.eqvAll]
theorem eqvAll_of {α : Type} (f : α → PyData) (h : ∀ a, PyData.eqv (f a) (f a) = true) : ∀ l : List α, PyData.eqvAll (l.map f) (l.map f) = true
  | [] => by simp [PyData.eqvAll]
  | a :: l => by
    rw [List.map_cons]
    simp [PyData.eqvAll, h a, eqvAll_of f h l]
theorem eqv_list {α : Type} (f : α → PyData) (h : ∀ a, PyData.eqv (f a) (f a) = true) (l : List α) : PyData.eqv (.list (l.map f)) (.list (l.map f)) = true := by
  simp [PyData.eqv, eqvAll_of f h l]
theorem eqv_pr (r : Row) : PyData.eqv (pr r) (pr r) = true := by
  have h := eqv_list pq eqv_pq r.1
  simp [PyData.eqv] at h
  simp [pr, PyData.eqv, PyData.eqvAll, h, eqv_pq]
theorem mapM_pyd {α : Type} (s : St) (k : Nat) (f : α → D) (g : α → PyData) (h : ∀ a, pyd s k (f a) = some (g a)) : ∀ l : List α, (l.map f).mapM (pyd s k) = some (l.map g)
  | [] => rfl
  | a :: l => by
    rw [List.map_cons, List.mapM_cons, h a, mapM_pyd s k f g h l]; rfl
theorem pyd_q (s : St) (k : Nat) (q : Rat) : pyd s (k + 1) (qD q) = some (pq q) := by
  cases k <;> rfl
theorem pyd_qs (s : St) (k : Nat) (qs : List Rat) : pyd s (k + 2) (.lst (qs.map qD)) = some (.list (qs.map pq)) := by
  show ((qs.map qD).mapM (pyd s (k + 1))).map PyData.list = _
  rw [mapM_pyd s (k + 1) qD pq (pyd_q s k)]; rfl
theorem pyd_row (s : St) (k : Nat) (r : Row) : pyd s (k + 3) (rowD r) = some (pr r) := by
  show ([D.lst (r.1.map qD), qD r.2].mapM (pyd s (k + 2))).map PyData.tuple = _
  rw [List.mapM_cons, pyd_qs]
  show ((some (PyData.list (r.1.map pq))).bind fun a => ([qD r.2].mapM (pyd s (k + 2))).bind fun b => some (a :: b)).map PyData.tuple = _
  rw [List.mapM_cons, pyd_q]
  rfl
theorem pyd_rows (s : St) (k : Nat) (rs : List Row) : pyd s (k + 4) (rowsD rs) = some (.list (rs.map pr)) := by
  show ((rs.map rowD).mapM (pyd s (k + 3))).map PyData.list = _
  rw [mapM_pyd s (k + 3) rowD pr (pyd_row s k)]; rfl
theorem ne_qs (s : St) (qs : List Rat) : cmpD s .ne (.lst (qs.map qD)) (.lst (qs.map qD)) = some false := by
  show (((pyd s 12 (.lst (qs.map qD))).bind fun x => (pyd s 12 (.lst (qs.map qD))).map fun y => PyData.eqv x y)).map (!·) = _
  rw [pyd_qs s 10 qs]
  show some (!PyData.eqv _ _) = _
  rw [eqv_list pq eqv_pq]; rfl
theorem ne_rows (s : St) (rs : List Row) : cmpD s .ne (rowsD rs) (rowsD rs) = some false := by
  show (((pyd s 12 (rowsD rs)).bind fun x => (pyd s 12 (rowsD rs)).map fun y => PyData.eqv x y)).map (!·) = _
  rw [pyd_rows s 8 rs]
  show some (!PyData.eqv _ _) = _
  rw [eqv_list pr eqv_pr]; rfl
def dropS : Nat → Ss → Ss
  | 0, s => s
  | n + 1, .cons _ s => dropS n s
  | _, .nil => .nil
def tl25 : Ss := dropS 9 b25
theorem GivZ.giv {cs : List Rat} {rs : List Row} (g : GivZ cs rs) : Giv cs rs := ⟨g.1, g.2.1, g.2.2.1, g.2.2.2⟩
theorem ev_shown {cs : List Rat} {rs : List Row} (g : GivZ cs rs) {a : Ans} (h : a.Ok cs rs) : callF pk.pg chkC fuel (d + 6) 19 [.lst (cs.map qD), rowsD rs, a.D] st = .ok (.bl true) st := by
  cases a with
  | best v xs ys => exact ev_shown_best g.giv h.1 h.2.1 h.2.2.1 h.2.2.2.1 h.2.2.2.2
  | bar ys => exact ev_shown_bar g.giv h.1 h.2
  | ray xs ws => exact ev_shown_ray g.giv h.1 h.2.1 h.2.2
/-- what came out as the world -/
structure World (world : D) (cs : List Rat) (rs : List Row) (m : Nat) (v : Rat) : Prop where
  i0 : ∀ s, idxD s world (.int 0) = some (.lst (cs.map qD))
  i1 : ∀ s, idxD s world (.int 1) = some (rowsD rs)
  i2 : m = 1 → ∀ s, idxD s world (.int 2) = some (qD v)
  get : ∀ env : En, getV (some world :: env) 0 = some world
theorem rows_copy (rs : List Row) (s : St) {c : Cfg} (env : En) (h : ∃ x0 x1 x2 x3 x4 x5 x6 x7 x8 x9 x10 x11 x12 x13, env = [x0, x1, x2, x3, x4, x5, x6, x7, x8, x9, x10, x11, x12, x13]) : compL (turnB c [12, 13] ce25_0 ct25_0 .nil env) (rs.map rowD) [] s = .ok (rs.map rowD) s ∧ compL (turnB c [12, 13] ce25_1 ct25_1 .nil env) (rs.map rowD) [] s = .ok (rs.map rowD) s := by
  obtain ⟨x0, x1, x2, x3, x4, x5, x6, x7, x8, x9, x10, x11, x12, x13, rfl⟩ := h
  constructor
  · rw [compL_mapped (g := rowD) (h := rowD) rs [] fun r hr => ?_]
    · simp
    · unfold rowD ct25_0
      rw [turn_tup rfl]
      simp [ce25_0]
  · rw [compL_mapped (g := rowD) (h := rowD) rs [] fun r hr => ?_]
    · simp
    · unfold rowD ct25_1
      rw [turn_tup rfl]
      simp [ce25_1]
theorem law_tail {cs : List Rat} {rs : List Row} {m : Nat} {v : Rat} {world : D} {many : Int} {md : Nat} (hfu : 5000 < fuel) (g : GivZ cs rs) (t : GivT cs rs) (p : Plan cs rs m v) (W : World world cs rs m v) (hmd : md < 4) (hfit : md = m ∨ (md = 3 ∧ m = 0 ∧ many = 0)) (x0 x1 x3 x4 x5 : Option D) :
    exs (cfgOf pk.pg fuel (callF pk.pg chkC fuel (d + 6))) tl25 [x0, x1, some (.int many), x3, x4, x5, some (.int md), some world, none, none, none, none, none, none] st = .ret (.bl true) st := by
  obtain ⟨a, ha, hs⟩ := ev_solve (fuel := fuel) (d := d + 2) (st := st) g t hfu
  have hw : ∀ r ∈ rs, r.1.length = cs.length := fun r hr => (g.2.2.2 r hr).1
  have hfi := fits hw p ha
  have hsh := ev_shown (fuel := fuel) (d := d) (st := st) g ha
  have hc := fun env h => rows_copy rs st (c := cfgOf pk.pg fuel (callF pk.pg chkC fuel (d + 6))) env h
  have hc' := fun x0 x1 x2 x3 x4 x5 x6 x7 x8 x9 x10 x11 x12 x13 => hc _ ⟨x0, x1, x2, x3, x4, x5, x6, x7, x8, x9, x10, x11, x12, x13, rfl⟩
  unfold ce25_0 ct25_0 ce25_1 ct25_1 at hc'
  have w1 : ∀ s, wkD s (rowsD rs) = some (.items (rs.map rowD)) := fun _ => rfl
  have er : D.lst (rs.map rowD) = rowsD rs := rfl
  have n1 : ("row" : Str) ≠ "best" := by decide
  have n2 : ("bar" : Str) ≠ "best" := by decide
  have n3 : ("ray" : Str) ≠ "best" := by decide
  have n4 : ("best" : Str) ≠ "bar" := by decide
  have n5 : ("ray" : Str) ≠ "bar" := by decide
  have n6 : ("best" : Str) ≠ "ray" := by decide
  have n7 : ("bar" : Str) ≠ "ray" := by decide
  have hg := W.get
  have hi0 := W.i0
  have hi1 := W.i1
  have hlst0 : ∀ (A B : D) (s : St), idxD s (.lst [A, B]) (.int 0) = some A := fun A B s => by
    show L2.atI [A, B] ((0 : Nat) : Int) = _
    rw [atI_nat]; rfl
  have hlst1 : ∀ (A B : D) (s : St), idxD s (.lst [A, B]) (.int 1) = some B := fun A B s => by
    show L2.atI [A, B] ((1 : Nat) : Int) = _
    rw [atI_nat]; rfl
  have hgD : ∀ env : En, getV (some a.D :: env) 0 = some a.D := fun _ => by cases a <;> rfl
  rcases (show md = 0 ∨ md = 1 ∨ md = 2 ∨ md = 3 by omega) with h | h | h | h <;> subst h
  · unfold tl25 dropS b25 dropS dropS dropS dropS dropS dropS dropS dropS dropS
    simp [hg, hi0, hi1, w1, hc', er, hlst0, hlst1, hs, ne_qs, ne_rows, hsh, hgD]
  · have hm1 : m = 1 := by omega
    subst hm1
    have hi2 := W.i2 rfl
    cases a with
    | best w xs ys =>
      have hwv : w = v := by
        rcases hfi with h | ⟨_, h⟩
        · omega
        · exact h
      subst hwv
      simp only [Ans.D] at hs hsh hgD
      have ceq := cmp_eq_qD (st := st) w w
      unfold tl25 dropS b25 dropS dropS dropS dropS dropS dropS dropS dropS dropS
      simp [hg, hi0, hi1, hi2, w1, hc', er, hlst0, hlst1, hs, ne_qs, ne_rows, hsh, cmp_eq_str, ceq]
    | bar ys => rcases hfi with h | h <;> omega
    | ray xs ws => rcases hfi with h | h <;> omega
  · have hm1 : m = 2 := by omega
    subst hm1
    cases a with
    | best w xs ys => rcases hfi with h | ⟨h, _⟩ <;> omega
    | bar ys =>
      simp only [Ans.D] at hs hsh hgD
      unfold tl25 dropS b25 dropS dropS dropS dropS dropS dropS dropS dropS dropS
      simp [hg, hi0, hi1, w1, hc', er, hlst0, hlst1, hs, ne_qs, ne_rows, hsh, cmp_eq_str]
    | ray xs ws => rcases hfi with h | h <;> omega
  · by_cases hz : many = 0
    · subst hz
      unfold tl25 dropS b25 dropS dropS dropS dropS dropS dropS dropS dropS dropS
      simp [hg, hi0, hi1, w1, hc', er, hlst0, hlst1, hs, ne_qs, ne_rows, hsh, hgD]
    · have hm1 : m = 3 := by omega
      subst hm1
      cases a with
      | best w xs ys => rcases hfi with h | ⟨h, _⟩ <;> omega
      | bar ys => rcases hfi with h | h <;> omega
      | ray xs ws =>
        simp only [Ans.D] at hs hsh hgD
        unfold tl25 dropS b25 dropS dropS dropS dropS dropS dropS dropS dropS dropS
        simp [hg, hi0, hi1, w1, hc', er, hlst0, hlst1, hs, ne_qs, ne_rows, hsh, cmp_eq_str, hz]
end W86
set_option linter.all false
set_option maxRecDepth 100000
set_option maxHeartbeats 2000000
/-! W37: the law's run. -/
namespace W86
open PySem MP I86
variable {fuel d : Nat} {st : St}
/-- a drawn size -/
theorem size_at (xs : List Int) (hl : xs.length = 8) (h : ∀ x ∈ xs, 0 ≤ x ∧ x ≤ 5) (a : Int) : ∃ n : Nat, n ≤ 5 ∧ ∀ s, idxD s (.lst (xs.map D.int)) (.int (a.fmod 8)) = some (.int n) := by
  obtain ⟨f0, f1⟩ := fmod_in a 8 (by omega)
  obtain ⟨j, hj⟩ : ∃ j : Nat, a.fmod 8 = (j : Int) := ⟨(a.fmod 8).toNat, by omega⟩
  have hj8 : j < xs.length := by omega
  obtain ⟨h0, h5⟩ := h _ (List.getElem_mem hj8)
  refine ⟨xs[j].toNat, by omega, fun s => ?_⟩
  rw [hj, idx_lst _ j (by simpa using hj8)]
  have : ((xs[j].toNat : Nat) : Int) = xs[j] := by omega
  simp [this]
theorem idx_w0 (A B : D) (tl : List D) (s : St) : idxD s (.lst (A :: B :: tl)) (.int 0) = some A := by
  show L2.atI (A :: B :: tl) ((0 : Nat) : Int) = _
  rw [atI_nat]; rfl
theorem idx_w1 (A B : D) (tl : List D) (s : St) : idxD s (.lst (A :: B :: tl)) (.int 1) = some B := by
  show L2.atI (A :: B :: tl) ((1 : Nat) : Int) = _
  rw [atI_nat]; rfl
theorem idx_w2 (A B C : D) (tl : List D) (s : St) : idxD s (.lst (A :: B :: C :: tl)) (.int 2) = some C := by
  show L2.atI (A :: B :: C :: tl) ((2 : Nat) : Int) = _
  rw [atI_nat]; rfl
theorem bits_bd (z : Int) (h : Builtin.Int.intBits z ≤ 1048576) : Bd 1048577 z := by
  unfold Builtin.Int.intBits at h
  unfold Bd
  by_cases h0 : z.natAbs = 0
  · rw [h0]; exact Nat.two_pow_pos _
  · have hz : ¬ (z == 0) = true := by
      intro e
      have := eq_of_beq e
      omega
    rw [if_neg hz] at h
    exact (Nat.log2_lt h0).mp (by omega)
def graft : Nat → Ss → Ss → Ss
  | 0, _, t => t
  | n + 1, .cons s ss, t => .cons s (graft n ss t)
  | _, .nil, t => t
theorem graft25 : b25 = graft 9 b25 tl25 := rfl
theorem law_run (hfu : 5000 < fuel) (ns : List Int) (hl : ns.length ≤ 63) (hb : ∀ z ∈ ns, Builtin.Int.intBits z ≤ 1048576) : callF pk.pg chkC fuel (d + 7) 25 [.lst (ns.map .int)] [] = .ok (.bl true) [] := by
  have hbd : ∀ n ∈ ns, Bd 1048577 n := fun z hz => bits_bd z (hb z hz)
  obtain ⟨c0, hc0⟩ := ev_cell (fuel := fuel) (d := d + 5) (st := []) ns 0 (by omega) hl hbd (by omega)
  obtain ⟨c1, hc1⟩ := ev_cell (fuel := fuel) (d := d + 5) (st := []) ns 1 (by omega) hl hbd (by omega)
  obtain ⟨c2, hc2⟩ := ev_cell (fuel := fuel) (d := d + 5) (st := []) ns 2 (by omega) hl hbd (by omega)
  obtain ⟨sh, s1, s2, s3⟩ := ev_draws (fuel := fuel) (d := d + 5) (st := []) c0 4 (by omega)
  obtain ⟨n, n1, n2⟩ := size_at [2, 3, 1, 4, 2, 0, 5, 3] rfl (by decide) (sh[0]'(by omega))
  obtain ⟨cnt, m1, m2⟩ := size_at [2, 3, 1, 4, 0, 5, 2, 3] rfl (by decide) (sh[1]'(by omega))
  have hnm : n * cnt ≤ 5 * 5 := Nat.mul_le_mul n1 m1
  obtain ⟨fs, f1, f2, f3⟩ := ev_draws (fuel := fuel) (d := d + 5) (st := []) c1 (n * cnt) (by omega)
  obtain ⟨ls, l1, l2, l3⟩ := ev_matrix (fuel := fuel) (d := d + 5) (st := []) (n := n) (cnt := cnt) (ds := fs) n1 m1 (by omega)
  obtain ⟨ds, d1, d2, d3⟩ := ev_draws (fuel := fuel) (d := d + 5) (st := []) c2 40 (by omega)
  obtain ⟨f0, f1'⟩ := fmod_in (sh[2]'(by omega)) 4 (by omega)
  obtain ⟨md, hmd⟩ : ∃ md : Nat, (sh[2]'(by omega)).fmod 4 = (md : Int) := ⟨((sh[2]'(by omega)).fmod 4).toNat, by omega⟩
  have hmd4 : md < 4 := by omega
  have hsh0 := idx_figs (st := []) sh 0 (by omega)
  have hsh1 := idx_figs (st := []) sh 1 (by omega)
  have hsh2 := idx_figs (st := []) sh 2 (by omega)
  have e0 : ((0 : Nat) : Int) = 0 := rfl
  have e1 : ((1 : Nat) : Int) = 1 := rfl
  have e2 : ((2 : Nat) : Int) = 2 := rfl
  rw [e0] at hc0 hsh0
  rw [e1] at hc1 hsh1
  rw [e2] at hc2 hsh2
  have hmo : MP.MulOk (n : Int) (cnt : Int) := Bd.mulOk (B := 40) (C := 40) (bd_of (by omega) (by omega)) (bd_of (by omega) (by omega)) (by omega)
  have ecast : ((n * cnt : Nat) : Int) = (n : Int) * (cnt : Int) := by simp
  rw [ecast] at f3
  have hfig : ∀ l : List Int, D.lst (l.map D.int) = figsD l := fun _ => rfl
  rw [hfig] at s3 f3 d3
  have hls5 : ls.length ≤ 5 := by omega
  have n2' := n2 []
  have m2' := m2 []
  simp only [List.map_cons, List.map_nil] at n2' m2'
  have e4 : ((4 : Nat) : Int) = 4 := rfl
  have e40 : ((40 : Nat) : Int) = 40 := rfl
  rw [e4] at s3
  rw [e40] at d3
  generalize hA0 : sh[0]'(by omega) = A0 at *
  generalize hA1 : sh[1]'(by omega) = A1 at *
  generalize hA2 : sh[2]'(by omega) = A2 at *
  have c25 := call_eq (fuel := fuel) (d := d + 6) (st := []) 25 f25 rfl [.lst (ns.map .int)] [.lst (ns.map .int)] rfl
  have dr : ∀ {cs : List Rat} {rs : List Row}, cs.length = n → rs.length = ls.length → (∀ c ∈ cs, Gq 4 c) → (∀ r ∈ rs, r.1 ∈ ls ∧ Gq 4 r.2) → Drawn n cs rs ds := fun h1 h2 h3 h4 => ⟨n1, h1, by omega, d1, h3, fun r hr => ⟨(l2 _ (h4 r hr).1).1, (l2 _ (h4 r hr).1).2, (h4 r hr).2⟩⟩
  have e1' : ((1 : Nat) : Int) = 1 := rfl
  have e2' : ((2 : Nat) : Int) = 2 := rfl
  have e3' : ((3 : Nat) : Int) = 3 := rfl
  by_cases hm1 : md = 1
  · subst hm1
    obtain ⟨cs, rs, v, b1, b2, b3, b4, b5⟩ := ev_best (fuel := fuel) (d := d + 1) (st := []) (n := n) (ls := ls) (ds := ds) n1 hls5 d1 l2
    have W : World (.lst [.lst (cs.map qD), rowsD rs, qD v]) cs rs 1 v := ⟨fun s => idx_w0 .., fun s => idx_w1 .., fun _ s => idx_w2 .., fun _ => rfl⟩
    have ht := law_tail (fuel := fuel) (d := d) (st := []) (many := (n : Int)) (md := 1) hfu b2 b3 b4 W (by omega) (.inl rfl) (some (.lst (ns.map .int))) (some (figsD sh)) (some (.int cnt)) (some (linesD ls)) (some (figsD ds))
    have hmd' : A2.fmod 4 = 1 := hmd
    generalize hw : D.lst [.lst (cs.map qD), rowsD rs, qD v] = world at *
    have hgw : ∀ env, getV (some world :: env) 0 = some world := W.get
    rw [c25]
    unfold runF f25
    rw [graft25]
    simp only [e1'] at ht
    generalize tl25 = T at *
    simp only [graft, b25]
    simp [hc0, hc1, hc2, s3, hsh0, hsh1, hsh2, n2', m2', hmo, f3, l3, d3, hmd', b5, ht]
  · obtain ⟨cs0, rs0, b1, b2, b3, b4, b5⟩ := ev_numbers (fuel := fuel) (d := d + 3) (st := []) (n := n) (ls := ls) (ds := ds) n1 hls5 d1
    have D0 := dr b1 b2 b3 b4
    have W0 : World (worldD cs0 rs0) cs0 rs0 0 0 := ⟨fun s => idx_w0 .., fun s => idx_w1 .., (fun h => absurd h (by omega)), fun _ => rfl⟩
    have i0 := W0.i0
    have i1 := W0.i1
    have g0 := W0.get
    by_cases hm2 : md = 2
    · subst hm2
      obtain ⟨rs, q1, q2, q3, q4⟩ := ev_withBar (fuel := fuel) (d := d + 1) (st := []) D0
      have W : World (worldD cs0 rs) cs0 rs 2 0 := ⟨fun s => idx_w0 .., fun s => idx_w1 .., (fun h => absurd h (by omega)), fun _ => rfl⟩
      have ht := law_tail (fuel := fuel) (d := d) (st := []) (many := (n : Int)) (md := 2) hfu q1 q2 q3 W (by omega) (.inl rfl) (some (.lst (ns.map .int))) (some (figsD sh)) (some (.int cnt)) (some (linesD ls)) (some (figsD ds))
      have hmd' : A2.fmod 4 = 2 := hmd
      generalize hw : worldD cs0 rs = world at *
      generalize hw0 : worldD cs0 rs0 = world0 at *
      rw [c25]
      unfold runF f25
      rw [graft25]
      simp only [e2'] at ht
      generalize tl25 = T at *
      simp only [graft, b25]
      simp [hc0, hc1, hc2, s3, hsh0, hsh1, hsh2, n2', m2', hmo, f3, l3, d3, hmd', b5, i0, i1, g0, q4, ht]
    · by_cases hm3 : md = 3 ∧ 0 < n
      · obtain ⟨hm3, hn0⟩ := hm3
        subst hm3
        obtain ⟨cs, rs, q0, q1, q2, q3, q4⟩ := ev_withRay (fuel := fuel) (d := d + 1) (st := []) D0 hn0
        have W : World (worldD cs rs) cs rs 3 0 := ⟨fun s => idx_w0 .., fun s => idx_w1 .., (fun h => absurd h (by omega)), fun _ => rfl⟩
        have ht := law_tail (fuel := fuel) (d := d) (st := []) (many := (n : Int)) (md := 3) hfu q1 q2 q3 W (by omega) (.inl rfl) (some (.lst (ns.map .int))) (some (figsD sh)) (some (.int cnt)) (some (linesD ls)) (some (figsD ds))
        have hmd' : A2.fmod 4 = 3 := hmd
        generalize hw : worldD cs rs = world at *
        generalize hw0 : worldD cs0 rs0 = world0 at *
        rw [c25]
        unfold runF f25
        rw [graft25]
        simp only [e3'] at ht
        generalize tl25 = T at *
        simp only [graft, b25]
        simp [hc0, hc1, hc2, s3, hsh0, hsh1, hsh2, n2', m2', hmo, f3, l3, d3, hmd', b5, i0, i1, g0, q4, ht, hn0]
      · have hfit : md = 0 ∨ (md = 3 ∧ (0 : Nat) = 0 ∧ (n : Int) = 0) := by
          by_cases h0 : md = 0
          · exact .inl h0
          · refine .inr ⟨by omega, rfl, ?_⟩
            have : ¬ 0 < n := fun z => hm3 ⟨by omega, z⟩
            omega
        have gv := D0.giv
        have ht := law_tail (fuel := fuel) (d := d) (st := []) (many := (n : Int)) (md := md) hfu gv.1 gv.2 (.none 0) W0 (by omega) hfit (some (.lst (ns.map .int))) (some (figsD sh)) (some (.int cnt)) (some (linesD ls)) (some (figsD ds))
        generalize hw0 : worldD cs0 rs0 = world0 at *
        rw [c25]
        unfold runF f25
        rw [graft25]
        generalize tl25 = T at *
        simp only [graft, b25]
        rcases hfit with rfl | ⟨rfl, _, hz⟩
        · have hmd' : A2.fmod 4 = 0 := hmd
          have e0'' : ((0 : Nat) : Int) = 0 := rfl
          simp only [e0''] at ht
          simp [hc0, hc1, hc2, s3, hsh0, hsh1, hsh2, n2', m2', hmo, f3, l3, d3, hmd', b5, g0, ht]
        · have hmd' : A2.fmod 4 = 3 := hmd
          have hgt : (0 < n) = False := eq_false (by omega)
          simp only [e3'] at ht
          simp [hc0, hc1, hc2, s3, hsh0, hsh1, hsh2, n2', m2', hmo, f3, l3, d3, hmd', b5, g0, ht, hgt]
theorem lawRun : LawRun pk chkC 5001 7 25 := fun ns hl hb => ⟨[], law_run (fuel := 5001) (d := 0) (by omega) ns hl hb⟩
end W86
set_option Elab.async false
set_option linter.all false
set_option maxRecDepth 100000
set_option maxHeartbeats 0
namespace I86
open PySem PySem.Spec PyProof.Rows L2 MP
abbrev R : PySem.W.OpenRow := PySem.W.OpenLaw.row PySem.Challenge.rw_plansasnewscome_k86_linear_one_of_three
abbrev hk : PySem.W.Hook := hookM 4 pk defs
def ob (s : PySem.W.SharedT) : AlM := obsM 4 pk defs (HandSHeadRun.getT s)
theorem ob_eq (s : PySem.W.SharedT) : ob s = hk.obs s.abs := obsM_eq (HandSHeadRun.getT_eq s)
def names1 : List PySem.Str := ["gcd", "__name__", "PlanError", "BadNumber", "ZERO", "ratio", "minus", "lowest", "whole_row", "Table", "solve"]
def names2 : List PySem.Str := ["_law_cell", "_law_draws", "_law_gcd", "_law_ratio", "_law_add", "_law_mul", "_law_below", "_law_is_whole", "_law_is_ratio", "_law_dot", "_law_ratios", "_law_sums", "_law_sound_entries", "_law_sound_prices", "_law_shown", "_law_matrix", "_law_best", "_law_numbers", "_law_with_bar", "_law_with_ray"]
def names : List PySem.Str := names1 ++ names2
theorem pk_ok : pk.okB = true := by kernel_rfl
theorem run (w : World) : HandSHeadRun.RunEqI R (PySem.W.view R.prog [34]) hk ob 3000 names w := by
  unfold HandSHeadRun.RunEqI; kernel_rfl
end I86
open PySem PySem.W PySem.Calls PyProof.Rows
theorem k86_of {chk : MP.St → MP.St → Bool} {fuel d : Nat} (hchk : ∀ a b, chk a b = true → a = b) (hd : d ≤ 60) (run : MP.LawRun I86.pk chk fuel d 25) : PySem.Challenge.rw_plansasnewscome_k86_linear_one_of_three.Holds := by
  w_on; o_law
  refine HandSHeadRun.head_imp (r := OpenLaw.row PySem.Challenge.rw_plansasnewscome_k86_linear_one_of_three) (q := view (OpenLaw.row PySem.Challenge.rw_plansasnewscome_k86_linear_one_of_three).prog [34]) (H := I86.hk) (ob := I86.ob) (M := 3000) (loose := I86.names) (d := HandSHeadRun.topDef (OpenLaw.row PySem.Challenge.rw_plansasnewscome_k86_linear_one_of_three).prog 34) (kwd := []) I86.ob_eq
    I86.run (by kernel_rfl) (by kernel_rfl) (by kernel_rfl) (by rfl) (by first | assumption | decide +kernel) (by decide +kernel) ⟨rfl, rfl, rfl, rfl, rfl, by decide +kernel⟩ ?hw ?hc
  case hw => w_witness2
  case hc =>
    refine MP.walk_ofM (l := PySem.Challenge.rw_plansasnewscome_k86_linear_one_of_three) (n := 63) (j := 2 * d) (x := "script") rfl (by decide) (by kernel_rfl) ⟨rfl, by show 301 + 3 * (2 * d) + 5 < 1000; omega, by show 4 + 16 * (2 * d) + 200 < 9900; omega⟩ ?F
    intro w mg fa h Y G hmg0
    have e : (HandSHeadRun.topDef (OpenLaw.row PySem.Challenge.rw_plansasnewscome_k86_linear_one_of_three).prog 34).name = I86.pk.nm.fn 25 := by kernel_rfl
    rw [e] at hmg0
    exact MP.law_of (k := I86.pk) (defs := I86.defs) (chk := chk) (fuel := fuel) (d := d) (f := 25) (F := I86.f25) I86.pk_ok I86.hD hchk rfl rfl rfl rfl (by decide) (dl := I86.d25) (List.mem_of_getElem? (i := 25) rfl) I86.ok25 (fun K a fd FD s u => L2.FunD.bindsA (ps := ["script"]) FD (fun _ _ _ _ _ _ us hl => match us, hl with | [_], _ => rfl) s [u] rfl) run w mg fa h Y G hmg0
set_option linter.all false
set_option maxRecDepth 100000
set_option maxHeartbeats 1000000
theorem PySem.Challenge.cw_plansasnewscome_k86_linear_one_of_three_holds : PySem.Challenge.rw_plansasnewscome_k86_linear_one_of_three.Holds :=
  k86_of MP.chkC_eq (by decide) W86.lawRun
