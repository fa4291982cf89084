import PyProof.Rows.All
import PySem.Syntax
import Wide.All
import OpenK.AllK
import Wide.FinOn
import HandS.ForMost
import HandS.ForExc
import HandS.HeadHook4
import HandS.HeadWalk
import HandS.IsInst
import HandS.SetKeys
import HandS.Zip
import HandS.TryElse
import HandS.CallSlots
import HandS.Defaults
import HandS.ExcInit
import HandS.Flow
import HandS.More
import HandS.SortOrd
import HandS.Strs
import HandS.Walk
import HandS.Deep
import HandS.TupAny
import HandS.RaiseOp
import HandS.Lambda
import HandS.EndTab
import HandS.Style
import HandS.Small
import HandS.ExcOwn
import HandS.Head2
import PySem.Challenge.RW_roomward_k11_names_known
set_option Elab.async false
set_option linter.all false
section
set_option linter.all false
namespace Pu
/-! A small language: what the program's text is brought to, and what it does, over a store of objects. -/
abbrev Txt := List Nat
inductive D where
  | non | bl (b : Bool) | int (i : Int) | str (s : Txt) | tup (xs : List D) | ptr (i : Nat) | scr (ns : List Int)
mutual
def D.eqb : D → D → Bool
  | .non, .non => true
  | .bl a, .bl b => a == b
  | .int a, .int b => a == b
  | .str a, .str b => a == b
  | .tup a, .tup b => D.eqbs a b
  | .ptr a, .ptr b => a == b
  | .scr a, .scr b => a == b
  | _, _ => false
def D.eqbs : List D → List D → Bool
  | [], [] => true
  | a :: as, b :: bs => D.eqb a b && D.eqbs as bs
  | _, _ => false
end
mutual
theorem D.eqb_ok : ∀ a b : D, D.eqb a b = true ↔ a = b
  | .non, b => by cases b <;> simp [D.eqb]
  | .bl x, b => by cases b <;> simp [D.eqb]
  | .int x, b => by cases b <;> simp [D.eqb]
  | .str x, b => by cases b <;> simp [D.eqb]
  | .ptr x, b => by cases b <;> simp [D.eqb]
  | .scr x, b => by cases b <;> simp [D.eqb]
  | .tup x, b => by
    cases b with
    | tup y => simp [D.eqb, D.eqbs_ok x y]
    | _ => simp [D.eqb]
theorem D.eqbs_ok : ∀ a b : List D, D.eqbs a b = true ↔ a = b
  | [], b => by cases b <;> simp [D.eqbs]
  | x :: xs, b => by
    cases b with
    | nil => simp [D.eqbs]
    | cons y ys => simp [D.eqbs, D.eqb_ok x y, D.eqbs_ok xs ys]
end
instance : DecidableEq D := fun a b => decidable_of_iff _ (D.eqb_ok a b)
inductive O where
  | lst (xs : List D)
  | dic (kvs : List (D × D))
  | frz (kvs : List (D × D))
  | ins (c : Nat) (fs : List (Nat × D))
  deriving DecidableEq
structure Ex where
  cls : Nat
  fs : List (Nat × D) := []
  deriving DecidableEq
inductive SV where
  | d (x : D)
  | x (e : Ex)
abbrev Store := List O
abbrev Slots := List (Option SV)
inductive Bop where
  | add | sub | mul | fdv | mod | band | bor | shl | shr
  deriving DecidableEq
inductive Cop where
  | eq | ne | lt | le | gt | ge | is | isn | inn | nin
  deriving DecidableEq
inductive Bf where
  | len | int | str | all | any | list | tuple | sorted | sum | sumL | max | min | sset | lset | svals | lvals | lrange | maxd | dictp | ord
  deriving DecidableEq
inductive Bm where
  | append | clear | reverse | pop | pop0 | index | get | extend | setdefault | update | count | insert | remove | split | strip | join | starts
  deriving DecidableEq
inductive Tg where
  | nm (i : Nat)
  | tp (ts : List Tg)
inductive E where
  | non | bl (b : Bool) | int (i : Int) | str (s : Txt)
  | loc (i : Nat) | glo (x : Nat)
  | bin (o : Bop) (a b : E)
  | cmp (o : Cop) (a b : E)
  | chain (o o' : Cop) (a b c : E)
  | not (a : E) | and (a b : E) | or (a b : E)
  | ife (t a b : E)
  | lst (es : List E) | tup (es : List E)
  | dic (es : List E)
  | sub (a b : E)
  | sli (a : E) (lo hi : Option E)
  | rev (a : E)
  | att (a : E) (f : Nat)
  | call (f : Nat) (es : List E)
  | make (c : Nat) (es : List E)
  | met (m : Nat) (o : E) (es : List E)
  | blt (f : Bf) (es : List E)
  | bm (m : Bm) (o : E) (es : List E)
  | isty (t : Nat) (a : E)
  | isex (i : Nat) (c : Nat)
  | callx (f : Nat) (i : Nat)
  | tried (b : E)
  | comp (elt : E) (tg : Tg) (it : E) (ifs : List E) (own : List Nat)
  | itr (a : E) | rng1 (a : E) | rng2 (a b : E) | enm (a : E) | zip2 (a b : E) | zip3 (a b c : E) | items (a : E) | vals (a : E)
  | bad
inductive S where
  | exp (e : E)
  | asg (t : Tg) (e : E)
  | asg2 (i j : Nat) (a b : E)
  | fld (o : E) (f : Nat) (e : E)
  | put (o k e : E)
  | aug (i : Nat) (o : Bop) (e : E)
  | augf (a : E) (f : Nat) (o : Bop) (e : E)
  | ife (t : E) (a b : List S)
  | for_ (t : Tg) (it : E) (b : List S)
  | whl (t : E) (b : List S)
  | ret (e : E) | retN | brk | cnt | pas
  | rais (c : Nat) (es : List E)
  | try_ (b : List S) (c : Nat) (i : Option Nat) (h : List S)
  | tryE (b : List S) (c : Nat) (h : List S) (o : List S)
  | bad

/-! results -/
inductive R (α : Type) where
  | ok (a : α) (st : Store)
  | ex (e : Ex) (st : Store)
  | bad
namespace R
variable {α β γ : Type}
def bind (m : R α) (f : α → Store → R β) : R β := match m with
  | ok a st => f a st
  | ex e st => ex e st
  | bad => bad
@[simp] theorem ok_bind (a : α) (st : Store) (f : α → Store → R β) : (ok a st).bind f = f a st := rfl
@[simp] theorem ex_bind (e : Ex) (st : Store) (f : α → Store → R β) : (ex e st : R α).bind f = ex e st := rfl
@[simp] theorem bad_bind (f : α → Store → R β) : (bad : R α).bind f = bad := rfl
theorem bind_assoc (m : R α) (f : α → Store → R β) (g : β → Store → R γ) : (m.bind f).bind g = m.bind fun a st => (f a st).bind g := by cases m <;> rfl
/-- nothing is raised -/
def nox : R α → R α
  | ok a st => ok a st
  | _ => bad
@[simp] theorem nox_ok (a : α) (st : Store) : (ok a st).nox = ok a st := rfl
def ofO (o : Option α) (st : Store) : R α := match o with
  | some a => ok a st
  | none => bad
@[simp] theorem ofO_some (a : α) (st : Store) : ofO (some a) st = ok a st := rfl
@[simp] theorem ofO_none (st : Store) : (ofO none st : R α) = bad := rfl
end R
inductive Fl where
  | nx | rt (d : D) | bk | ct
inductive RS where
  | ok (f : Fl) (sl : Slots) (st : Store)
  | ex (e : Ex) (sl : Slots) (st : Store)
  | bad
/-- an expression's result, in a statement -/
def RS.of {α : Type} (m : R α) (sl : Slots) (f : α → Store → RS) : RS := match m with
  | .ok a st => f a st
  | .ex e st => .ex e sl st
  | .bad => .bad
@[simp] theorem RS.of_ok {α : Type} (a : α) (st : Store) (sl : Slots) (f : α → Store → RS) : RS.of (.ok a st) sl f = f a st := rfl
@[simp] theorem RS.of_ex {α : Type} (e : Ex) (st : Store) (sl : Slots) (f : α → Store → RS) : RS.of (.ex e st) sl f = .ex e sl st := rfl
@[simp] theorem RS.of_bad {α : Type} (sl : Slots) (f : α → Store → RS) : RS.of (.bad : R α) sl f = .bad := rfl

/-! the sizes that this language speaks of -/
def okS (s : Txt) : Bool := s.all fun c => decide (c < 1114112)
def lim : Nat := 100000
/-- an object at a value -/
def obj (st : Store) : D → Option O
  | .ptr i => st[i]?
  | _ => none
def lstAt (st : Store) (d : D) : Option (List D) := match obj st d with
  | some (.lst xs) => some xs
  | _ => none
def seqAt (st : Store) : D → Option (List D)
  | .tup xs => some xs
  | .scr ns => some (ns.map D.int)
  | d => lstAt st d
def dicAt (st : Store) (d : D) : Option (List (D × D)) := match obj st d with
  | some (.dic kvs) => some kvs
  | some (.frz (kv :: kvs)) => some (kv :: kvs)
  | _ => none
def new (o : O) (st : Store) : R D := .ok (.ptr st.length) (st ++ [o])
def setO (d : D) (o : O) (st : Store) : Store := match d with
  | .ptr i => st.set i o
  | _ => st
/-! data, deep -/
inductive T where
  | non | bl (b : Bool) | int (i : Int) | str (s : Txt) | lst (xs : List T) | tup (xs : List T)
/-- a value's data, n objects deep -/
def tree : Nat → Store → D → Option T
  | 0, _, _ => none
  | n + 1, st, d => match d with
    | .non => some .non
    | .bl b => some (.bl b)
    | .int i => some (.int i)
    | .str s => some (.str s)
    | .tup xs => (xs.mapM (tree n st)).map T.tup
    | .scr _ => none
    | .ptr i => match st[i]? with
      | some (.lst xs) => (xs.mapM (tree n st)).map T.lst
      | _ => none
mutual
def T.eqv : T → T → Bool
  | .non, .non => true
  | .bl a, .bl b => a == b
  | .bl a, .int j => (if a then 1 else 0) == j
  | .int i, .bl b => i == (if b then 1 else 0)
  | .int i, .int j => i == j
  | .str x, .str y => x == y
  | .lst xs, .lst ys => T.eqvs xs ys
  | .tup xs, .tup ys => T.eqvs xs ys
  | _, _ => false
def T.eqvs : List T → List T → Bool
  | [], [] => true
  | x :: xs, y :: ys => T.eqv x y && T.eqvs xs ys
  | _, _ => false
end
def deep : Nat := 12
/-- == -/
def eqD (st : Store) (a b : D) : Option Bool := match tree deep st a, tree deep st b with
  | some x, some y => some (T.eqv x y)
  | _, _ => none
def putD (kvs : List (D × D)) (k v : D) : List (D × D) := if kvs.any (fun kv => decide (kv.1 = k)) then kvs.map (fun kv => if kv.1 = k then (k, v) else kv) else kvs ++ [(k, v)]
def getD (kvs : List (D × D)) (k : D) : Option D := (kvs.find? fun kv => decide (kv.1 = k)).map (·.2)
/-- what may be a key -/
def flatK : D → Bool
  | .str _ => true
  | .int _ => true
  | _ => false
def isKey : D → Bool
  | .str _ => true
  | .int _ => true
  | .tup xs => xs.all flatK
  | _ => false
def sameK (a b : D) : Bool := match a, b with
  | .tup _, .tup _ => true
  | .tup _, _ => false
  | _, .tup _ => false
  | _, _ => true
/-- k may be a key of a dict of these -/
def keyOk (kvs : List (D × D)) (k : D) : Bool := isKey k && kvs.all fun kv => sameK kv.1 k
/-- x in a list, a tuple of data -/
def inL (st : Store) (a b : D) : Option Bool := match tree deep st a, tree deep st b with
  | some x, some (.lst ys) => some (ys.any fun y => T.eqv y x)
  | _, _ => none
def inS (s : Txt) (a : D) : Option Bool := match a with
  | .str [c] => some (decide (c ∈ s))
  | _ => none
def inD (st : Store) (a b : D) : Option Bool := match b with
  | .str s => inS s a
  | _ => match dicAt st b with
    | some kvs => if keyOk kvs a then some (getD kvs a).isSome else none
    | none => inL st a b
def ltT (a b : Txt) : Bool := decide (a < b)
def isNon : D → Bool
  | .non => true
  | _ => false
def ltD (a b : D) : Option Bool := match a, b with
  | .int i, .int j => some (decide (i < j))
  | .str x, .str y => some (ltT x y)
  | _, _ => none
def leD (a b : D) : Option Bool := match a, b with
  | .int i, .int j => some (decide (i ≤ j))
  | .str x, .str y => some (!ltT y x)
  | _, _ => none
def gtD (a b : D) : Option Bool := match a, b with
  | .int i, .int j => some (decide (j < i))
  | .str x, .str y => some (ltT y x)
  | _, _ => none
def geD (a b : D) : Option Bool := match a, b with
  | .int i, .int j => some (decide (j ≤ i))
  | .str x, .str y => some (!ltT x y)
  | _, _ => none
def cmpD (o : Cop) (st : Store) (a b : D) : Option Bool := match o with
  | .eq => eqD st a b
  | .ne => (eqD st a b).map (!·)
  | .is => if isNon b then some (isNon a) else none
  | .isn => if isNon b then some (!isNon a) else none
  | .inn => inD st a b
  | .nin => (inD st a b).map (!·)
  | .lt => ltD a b
  | .le => leD a b
  | .gt => gtD a b
  | .ge => geD a b
def bigI : Int := 18446744073709551616
def addD (a b : D) (st : Store) : R D := match a, b with
  | .int i, .int j => .ok (.int (i + j)) st
  | .str x, .str y => if x.length + y.length ≤ lim then .ok (.str (x ++ y)) st else .bad
  | .tup xs, .tup ys => if xs.length + ys.length ≤ lim then .ok (.tup (xs ++ ys)) st else .bad
  | _, _ => match lstAt st a, lstAt st b with
    | some xs, some ys => if xs.length + ys.length ≤ lim then new (.lst (xs ++ ys)) st else .bad
    | _, _ => .bad
def sbtD (a b : D) (st : Store) : R D := match a, b with
  | .int i, .int j => .ok (.int (i - j)) st
  | _, _ => .bad
def mulD (a b : D) (st : Store) : R D := match a, b with
  | .int i, .int j => if (-bigI < i ∧ i < bigI) ∨ (-bigI < j ∧ j < bigI) then .ok (.int (i * j)) st else .bad
  | _, .int j => match lstAt st a with
    | some xs => if j ≤ lim ∧ -lim ≤ j ∧ xs.length * j.toNat ≤ lim then new (.lst (List.replicate j.toNat xs).flatten) st else .bad
    | none => .bad
  | _, _ => .bad
def fdvD (a b : D) (st : Store) : R D := match a, b with
  | .int i, .int j => if j ≠ 0 ∧ j.natAbs < 1073741824 then .ok (.int (i.fdiv j)) st else .bad
  | _, _ => .bad
def modD (a b : D) (st : Store) : R D := match a, b with
  | .int i, .int j => if j ≠ 0 then .ok (.int (i.fmod j)) st else .bad
  | _, _ => .bad
def bandD (a b : D) (st : Store) : R D := match a, b with
  | .int (.ofNat i), .int (.ofNat j) => .ok (.int (i &&& j : Nat)) st
  | _, _ => .bad
def borD (a b : D) (st : Store) : R D := match a, b with
  | .int (.ofNat i), .int (.ofNat j) => .ok (.int (i ||| j : Nat)) st
  | _, _ => .bad
def shlD (a b : D) (st : Store) : R D := match a, b with
  | .int i, .int j => if 0 ≤ j ∧ j ≤ 1000000 ∧ i.natAbs < 18446744073709551616 then .ok (.int (i * 2 ^ j.toNat)) st else .bad
  | _, _ => .bad
def shrD (a b : D) (st : Store) : R D := match a, b with
  | .int i, .int j => if 0 ≤ j then .ok (.int (i / 2 ^ j.toNat)) st else .bad
  | _, _ => .bad
def binD (o : Bop) (a b : D) (st : Store) : R D := match o with
  | .add => addD a b st
  | .sub => sbtD a b st
  | .mul => mulD a b st
  | .fdv => fdvD a b st
  | .mod => modD a b st
  | .band => bandD a b st
  | .bor => borD a b st
  | .shl => shlD a b st
  | .shr => shrD a b st
/-- a place in n items -/
def ixN (n : Nat) (i : Int) : Option Nat :=
  if i < 0 then (if -(n : Int) ≤ i then some (i + n).toNat else none) else if i < n then some i.toNat else none
def subS (s : Txt) (b : D) : Option D := match b with
  | .int i => if s.length ≤ lim then ((ixN s.length i).bind fun k => s[k]?).map fun c => .str [c] else none
  | _ => none
def subL (xs : List D) (b : D) : Option D := match b with
  | .int i => (ixN xs.length i).bind fun k => xs[k]?
  | _ => none
def subD (st : Store) (a b : D) : Option D := match a with
  | .str s => subS s b
  | _ => match dicAt st a with
    | some kvs => if keyOk kvs b then getD kvs b else none
    | none => (seqAt st a).bind fun xs => subL xs b
def slIx (n dflt : Nat) : Option Int → Nat
  | none => dflt
  | some i => if i < 0 then (i + n).toNat else min i.toNat n
def cut {α : Type} (xs : List α) (lo hi : Option Int) : List α := (xs.drop (slIx xs.length 0 lo)).take (slIx xs.length xs.length hi - slIx xs.length 0 lo)
def sliD (a : D) (lo hi : Option Int) (st : Store) : R D := match a with
  | .str s => if s.length ≤ lim then .ok (.str (cut s lo hi)) st else .bad
  | .tup xs => .ok (.tup (cut xs lo hi)) st
  | _ => match lstAt st a with
    | some xs => new (.lst (cut xs lo hi)) st
    | none => .bad
def revD (a : D) (st : Store) : R D := match lstAt st a with
  | some xs => new (.lst xs.reverse) st
  | none => .bad
/-- a rising list of texts, of numbers -/
def insT (x : Txt) : List Txt → List Txt
  | [] => [x]
  | y :: ys => if ltT x y then x :: y :: ys else y :: insT x ys
def sortT : List Txt → List Txt
  | [] => []
  | x :: xs => insT x (sortT xs)
def insI (x : Int) : List Int → List Int
  | [] => [x]
  | y :: ys => if x < y then x :: y :: ys else y :: insI x ys
def sortI : List Int → List Int
  | [] => []
  | x :: xs => insI x (sortI xs)
def txtsD (xs : List D) : Option (List Txt) := xs.mapM fun d => match d with
  | .str s => some s
  | _ => none
def intsD (xs : List D) : Option (List Int) := xs.mapM fun d => match d with
  | .int s => some s
  | _ => none
def blsD (xs : List D) : Option (List Bool) := xs.mapM fun d => match d with
  | .bl s => some s
  | _ => none
def digits (n : Nat) : Txt := (Nat.toDigits 10 n).map Char.toNat
/-- the unlike ones, in order -/
def dedup {α : Type} [DecidableEq α] : List α → List α → List α
  | acc, [] => acc
  | acc, x :: xs => if x ∈ acc then dedup acc xs else dedup (acc ++ [x]) xs
def lenD (a : D) (st : Store) : R D := match a with
  | .str s => if s.length ≤ lim then .ok (.int s.length) st else .bad
  | _ => match seqAt st a with
    | some xs => .ok (.int xs.length) st
    | none => .bad
def intD (a : D) (st : Store) : R D := match a with
  | .int i => .ok (.int i) st
  | .bl b => .ok (.int (if b then 1 else 0)) st
  | _ => .bad
def strD (a : D) (st : Store) : R D := match a with
  | .int (.ofNat n) => if n < 100000000000000000000 then .ok (.str (digits n)) st else .bad
  | _ => .bad
def allD (a : D) (st : Store) : R D := R.ofO ((lstAt st a).bind fun xs => (blsD xs).map fun bs => .bl (bs.all id)) st
def anyD (a : D) (st : Store) : R D := R.ofO ((lstAt st a).bind fun xs => (blsD xs).map fun bs => .bl (bs.any id)) st
def listD (a : D) (st : Store) : R D := match seqAt st a with
  | some xs => new (.lst xs) st
  | none => .bad
def tupleD (a : D) (st : Store) : R D := R.ofO ((seqAt st a).map D.tup) st
def sortedD (a : D) (st : Store) : R D := match (lstAt st a).bind txtsD with
  | some xs => if xs.length < 64 then new (.lst ((sortT xs).map D.str)) st else .bad
  | none => .bad
def sumD (a : D) (st : Store) : R D := R.ofO ((lstAt st a).bind fun xs => (intsD xs).map fun ns => .int ns.sum) st
def maxD (a b : D) (st : Store) : R D := match a, b with
  | .int i, .int j => .ok (.int (if j > i then j else i)) st
  | _, _ => .bad
def minD (a b : D) (st : Store) : R D := match a, b with
  | .int i, .int j => .ok (.int (if j < i then j else i)) st
  | _, _ => .bad
def bltD (f : Bf) (as : List D) (st : Store) : R D := match f, as with
  | .len, [a] => lenD a st
  | .int, [a] => intD a st
  | .str, [a] => strD a st
  | .all, [a] => allD a st
  | .any, [a] => anyD a st
  | .list, [a] => listD a st
  | .tuple, [a] => tupleD a st
  | .sorted, [a] => sortedD a st
  | .sum, [a] => sumD a st
  | .max, [a, b] => maxD a b st
  | .min, [a, b] => minD a b st
  | _, _ => .bad
def appendD (o x : D) (st : Store) : R D := match lstAt st o with
  | some xs => if xs.length < lim then .ok .non (setO o (.lst (xs ++ [x])) st) else .bad
  | none => .bad
def clearD (o : D) (st : Store) : R D := match lstAt st o with
  | some _ => .ok .non (setO o (.lst []) st)
  | none => .bad
def reverseD (o : D) (st : Store) : R D := match lstAt st o with
  | some xs => .ok .non (setO o (.lst xs.reverse) st)
  | none => .bad
def popD (o : D) (st : Store) : R D := match lstAt st o with
  | some xs => match xs[xs.length - 1]? with
    | some x => .ok x (setO o (.lst xs.dropLast) st)
    | none => .bad
  | none => .bad
def pop0D (o : D) (st : Store) : R D := match lstAt st o with
  | some (x :: xs) => .ok x (setO o (.lst xs) st)
  | _ => .bad
def indexD (o x : D) (st : Store) : R D := match tree deep st x, tree deep st o with
  | some t, some (.lst ys) => match ys.findIdx? fun y => T.eqv y t with
    | some k => .ok (.int k) st
    | none => .bad
  | _, _ => .bad
def dgetD (o k : D) (st : Store) : R D := match dicAt st o with
  | some kvs => if keyOk kvs k then .ok ((getD kvs k).getD .non) st else .bad
  | none => .bad
def extendD (o a : D) (st : Store) : R D := match lstAt st o, lstAt st a with
  | some xs, some ys => if xs.length + ys.length ≤ lim then .ok .non (setO o (.lst (xs ++ ys)) st) else .bad
  | _, _ => .bad
def bmD (m : Bm) (o : D) (as : List D) (st : Store) : R D := match m, as with
  | .append, [x] => appendD o x st
  | .clear, [] => clearD o st
  | .reverse, [] => reverseD o st
  | .pop, [] => popD o st
  | .pop0, [] => pop0D o st
  | .index, [x] => indexD o x st
  | .get, [k] => dgetD o k st
  | .extend, [a] => extendD o a st
  | _, _ => .bad
/-- of which kind a method is -/
def bmT : Bm → Bool
  | .get => true
  | _ => false
def istyD (t : Nat) (x : D) (st : Store) : R D := match t, x with
  | 0, .str _ => .ok (.bl true) st
  | 0, .ptr i => (match st[i]? with
    | some (.lst _) => .ok (.bl false) st
    | some (.dic _) => .ok (.bl false) st
    | _ => .bad)
  | 0, _ => .ok (.bl false) st
  | 1, .bl _ => .ok (.bl true) st
  | 1, .non => .ok (.bl false) st
  | 1, .int _ => .ok (.bl false) st
  | 1, .str _ => .ok (.bl false) st
  | 2, .int _ => .ok (.bl true) st
  | 2, .bl _ => .ok (.bl true) st
  | 2, .non => .ok (.bl false) st
  | 2, .str _ => .ok (.bl false) st
  | _, _ => .bad
/-- what counts as true -/
def truth (st : Store) (d : D) : Option Bool := match d with
  | .bl b => some b
  | .int i => some (i != 0)
  | .str s => if s.length ≤ lim then some (!s.isEmpty) else none
  | .non => some false
  | d => (lstAt st d).map fun xs => !xs.isEmpty
/-! targets -/
mutual
def assign : Tg → D → Slots → Option Slots
  | .nm i, d, sl => some (sl.set i (some (.d d)))
  | .tp ts, .tup ds, sl => assigns ts ds sl
  | .tp _, _, _ => none
def assigns : List Tg → List D → Slots → Option Slots
  | [], [], sl => some sl
  | t :: ts, d :: ds, sl => (assign t d sl).bind (assigns ts ds)
  | _, _, _ => none
end
def wipe (sl : Slots) : List Nat → Slots
  | [] => sl
  | v :: vs => (wipe sl vs).set v none
/-- the slots without exceptions -/
def noX (sl : Slots) : Slots := sl.map fun o => match o with
  | some (.x _) => none
  | o => o
/-! the program -/
structure Fn where
  np : Nat
  dfl : List D
  n : Nat
  body : List S
structure Prog where
  nm : List Txt
  fns : List Fn
  con : List (Nat × D)
  meth : List ((Nat × Nat) × Nat)
  init : List (Nat × Nat)
  exc : List (Nat × List Nat × List Nat)
  tried : Option (Nat × Nat)
  fld : List (Nat × List Nat)
/-- a name of a class's instances -/
def Prog.isFld (P : Prog) (c f : Nat) : Bool := match P.fld.lookup c with
  | some fs => fs.contains f
  | none => false
/-- an exception class's kinds: itself, those above it -/
def Prog.isSub (P : Prog) (c d : Nat) : Bool := match P.exc.lookup c with
  | some (cs, _) => cs.contains d
  | none => false
/-- what is walked: the things, and the objects that must stay meanwhile -/
structure Walk where
  xs : List D
  src : List (Nat × O)
  lk : Option (Nat × List (D × D)) := none
def Walk.lock (w : Walk) (st : Store) : Store := match w.lk with
  | some (i, kvs) => st.set i (.frz kvs)
  | none => st
def Walk.free (w : Walk) (st : Store) : Store := match w.lk with
  | some (i, kvs) => st.set i (.dic kvs)
  | none => st
def Walk.held (w : Walk) (st : Store) : Bool := match w.lk with
  | some (i, kvs) => decide (st[i]? = some (.frz kvs))
  | none => true
/-- a dict walked: locked meanwhile, if it isn't so yet -/
def walkD (f : List (D × D) → List D) (st : Store) (d : D) : Option Walk := match d with
  | .ptr i => match st[i]? with
    | some (.dic kvs) => some ⟨f kvs, [(i, .frz kvs)], some (i, kvs)⟩
    | some (.frz (kv :: kvs)) => some ⟨f (kv :: kvs), [(i, .frz (kv :: kvs))], none⟩
    | _ => none
  | _ => none
/-- .. whose keys are numbers and texts -/
def walkF (f : List (D × D) → List D) (st : Store) (d : D) : Option Walk := match d with
  | .ptr i => match st[i]? with
    | some (.dic kvs) => if kvs.all (fun kv => flatK kv.1) then some ⟨f kvs, [(i, .frz kvs)], some (i, kvs)⟩ else none
    | some (.frz (kv :: kvs)) => if (kv :: kvs).all (fun kv => flatK kv.1) then some ⟨f (kv :: kvs), [(i, .frz (kv :: kvs))], none⟩ else none
    | _ => none
  | _ => none
def stays (st : Store) (src : List (Nat × O)) : Bool := src.all fun p => decide (st[p.1]? = some p.2)
def srcOf (st : Store) : D → List (Nat × O)
  | .ptr i => match st[i]? with
    | some o => [(i, o)]
    | none => []
  | _ => []
def range (lo hi : Int) : List D := (List.range (hi - lo).toNat).map fun i => .int (lo + (i : Nat))
def enum (k : Int) : List D → List D
  | [] => []
  | x :: xs => .tup [.int k, x] :: enum (k + 1) xs
def zipD : List D → List D → List D
  | a :: as, b :: bs => .tup [a, b] :: zipD as bs
  | _, _ => []
def zip3D : List D → List D → List D → List D
  | a :: as, b :: bs, c :: cs => .tup [a, b, c] :: zip3D as bs cs
  | _, _, _ => []
def rngB (i : Int) : Bool := decide (-1000000 ≤ i) && decide (i ≤ 1000000)
section
variable (P : Prog) (call : Nat → List SV → Store → R D)
def makeD (c : Nat) (as : List D) (st : Store) : R D := match P.init.lookup c with
  | some f => (call f ((.ptr st.length :: as).map .d) (st ++ [.ins c []])).bind fun r st' => if isNon r then .ok (.ptr st.length) st' else .bad
  | none => .bad
/-- [e for .. in .. if ..]: the elements -/
def compL (f : D → Store → R (Option D)) (src : List (Nat × O)) : List D → List D → Store → R (List D)
  | [], acc, st => if stays st src then .ok acc st else .bad
  | x :: xs, acc, st => if stays st src then (match f x st with
      | .ok (some y) st' => compL f src xs (acc ++ [y]) st'
      | .ok none st' => compL f src xs acc st'
      | _ => .bad) else .bad
def dicOf : List D → List (D × D) → Option (List (D × D))
  | [], acc => some acc
  | k :: v :: r, acc => if flatK k then dicOf r (putD acc k v) else none
  | _, _ => none
mutual
def evE : E → Slots → Store → R D
  | .non, _, st => .ok .non st
  | .bl b, _, st => .ok (.bl b) st
  | .int i, _, st => .ok (.int i) st
  | .str s, _, st => .ok (.str s) st
  | .loc i, sl, st => match sl[i]? with
    | some (some (.d x)) => .ok x st
    | _ => .bad
  | .glo x, _, st => R.ofO (P.con.lookup x) st
  | .bin o a b, sl, st => (evE a sl st).bind fun x st => (evE b sl st).bind fun y st => binD o x y st
  | .cmp o a b, sl, st => (evE a sl st).bind fun x st => (evE b sl st).bind fun y st => R.ofO ((cmpD o st x y).map D.bl) st
  | .chain o o' a b c, sl, st => (evE a sl st).bind fun x st => (evE b sl st).bind fun y st => (R.ofO (cmpD o st x y) st).bind fun k st => if k = true then (evE c sl st).bind fun z st => R.ofO ((cmpD o' st y z).map D.bl) st else .ok (.bl false) st
  | .not a, sl, st => (evE a sl st).bind fun x st => R.ofO ((truth st x).map fun b => .bl (!b)) st
  | .and a b, sl, st => (evE a sl st).bind fun x st => (R.ofO (truth st x) st).bind fun k st => if k = true then evE b sl st else .ok x st
  | .or a b, sl, st => (evE a sl st).bind fun x st => (R.ofO (truth st x) st).bind fun k st => if k = true then .ok x st else evE b sl st
  | .ife t a b, sl, st => (evE t sl st).bind fun x st => (R.ofO (truth st x) st).bind fun k st => if k = true then evE a sl st else evE b sl st
  | .lst es, sl, st => (evEs es sl st).bind fun xs st => if xs.length ≤ lim then new (.lst xs) st else .bad
  | .tup es, sl, st => (evEs es sl st).bind fun xs st => if xs.length ≤ lim then .ok (.tup xs) st else .bad
  | .dic es, sl, st => (evEs es sl st).bind fun xs st => if xs.length ≤ 30 then (match dicOf xs [] with
    | some kvs => new (.dic kvs) st
    | none => .bad) else .bad
  | .sub a b, sl, st => (evE a sl st).bind fun x st => (evE b sl st).bind fun y st => R.ofO (subD st x y) st
  | .sli a lo hi, sl, st => (evE a sl st).bind fun x st => (evOp lo sl st).bind fun l st => (evOp hi sl st).bind fun h st => sliD x l h st
  | .rev a, sl, st => (evE a sl st).bind fun x st => revD x st
  | .att a f, sl, st => (evE a sl st).bind fun x st => match obj st x with
    | some (.ins c fs) => R.ofO (fs.lookup f) st
    | _ => .bad
  | .call f es, sl, st => (evEs es sl st).bind fun xs st => call f (xs.map .d) st
  | .make c es, sl, st => (evEs es sl st).bind fun xs st => makeD P call c xs st
  | .met m o es, sl, st => (evE o sl st).bind fun x st => match obj st x with
    | some (.ins c fs) => (match fs.lookup m, P.meth.lookup (c, m) with
      | none, some f => (evEs es sl st).bind fun xs st => call f ((x :: xs).map .d) st
      | _, _ => .bad)
    | _ => .bad
  | .blt f es, sl, st => (evEs es sl st).bind fun xs st => bltD f xs st
  | .bm m o es, sl, st => (evE o sl st).bind fun x st => if (if bmT m then (dicAt st x).isSome else (lstAt st x).isSome) then (evEs es sl st).bind fun xs st => bmD m x xs st else .bad
  | .isty t a, sl, st => (evE a sl st).bind fun x st => istyD t x st
  | .isex i c, sl, st => match sl[i]? with
    | some (some (.x e)) => if e.fs = [] then .ok (.bl (P.isSub e.cls c)) st else .bad
    | _ => .bad
  | .callx f i, sl, st => match sl[i]? with
    | some (some (.x e)) => (call f [.x e] st).nox
    | _ => .bad
  | .tried b, sl, st => match evE b sl st with
    | .ok _ st => .ok (.str []) st
    | .ex e st => (match P.tried with
      | some (c, g) => if P.isSub e.cls c then (call g [.x e] st).nox else .bad
      | none => .bad)
    | .bad => .bad
  | .comp elt tg it ifs own, sl, st => (evI it sl st).bind fun w st => if w.xs.length ≤ lim then
      (compL (fun d st => match assign tg d (wipe (noX sl) own) with
        | some sl' => (evTs ifs sl' st).bind fun b st => if b = true then (evE elt sl' st).bind fun y st => .ok (some y) st else .ok none st
        | none => .bad) w.src w.xs [] (w.lock st)).bind fun ys st => if w.held st then new (.lst ys) (w.free st) else .bad
    else .bad
  | _, _, _ => .bad
def evEs : List E → Slots → Store → R (List D)
  | [], _, st => .ok [] st
  | e :: es, sl, st => (evE e sl st).bind fun x st => (evEs es sl st).bind fun xs st => .ok (x :: xs) st
def evTs : List E → Slots → Store → R Bool
  | [], _, st => .ok true st
  | e :: es, sl, st => (evE e sl st).bind fun x st => (R.ofO (truth st x) st).bind fun k st => if k = true then evTs es sl st else .ok false st
def evOp : Option E → Slots → Store → R (Option Int)
  | none, _, st => .ok none st
  | some e, sl, st => (evE e sl st).bind fun x st => match x with
    | .int i => .ok (some i) st
    | _ => .bad
def evI : E → Slots → Store → R Walk
  | .rng1 a, sl, st => (evE a sl st).bind fun x st => match x with
    | .int j => if rngB j then .ok ⟨range 0 j, [], none⟩ st else .bad
    | _ => .bad
  | .rng2 a b, sl, st => (evE a sl st).bind fun x st => (evE b sl st).bind fun y st => match x, y with
    | .int i, .int j => if rngB i && rngB j then .ok ⟨range i j, [], none⟩ st else .bad
    | _, _ => .bad
  | .enm a, sl, st => (evE a sl st).bind fun x st => match lstAt st x with
    | some xs => .ok ⟨enum 0 xs, srcOf st x, none⟩ st
    | none => .bad
  | .zip2 a b, sl, st => (evE a sl st).bind fun x st => (evE b sl st).bind fun y st => match lstAt st x, lstAt st y with
    | some xs, some ys => .ok ⟨zipD xs ys, srcOf st x ++ srcOf st y, none⟩ st
    | _, _ => .bad
  | .itr e, sl, st => (evE e sl st).bind fun x st => match x with
    | .tup xs => .ok ⟨xs, [], none⟩ st
    | .str s => .ok ⟨s.map fun c => .str [c], [], none⟩ st
    | .scr ns => .ok ⟨ns.map D.int, [], none⟩ st
    | d => match lstAt st d with
      | some xs => .ok ⟨xs, srcOf st d, none⟩ st
      | none => R.ofO (walkD (fun kvs => kvs.map (·.1)) st d) st
  | .items a, sl, st => (evE a sl st).bind fun x st => R.ofO (walkF (fun kvs => kvs.map fun kv => .tup [kv.1, kv.2]) st x) st
  | .vals a, sl, st => (evE a sl st).bind fun x st => R.ofO (walkF (fun kvs => kvs.map (·.2)) st x) st
  | _, _, _ => .bad
end
/-! statements -/
/-- a store to an object's name -/
def putF : List (Nat × D) → Nat → D → List (Nat × D)
  | [], f, v => [(f, v)]
  | (g, x) :: r, f, v => if g = f then (g, v) :: r else (g, x) :: putF r f v
def fldD (P : Prog) (o : D) (f : Nat) (v : D) (st : Store) : Option Store := match obj st o with
  | some (.ins c fs) => if P.isFld c f ∧ fs.length < 900 then some (setO o (.ins c (putF fs f v)) st) else none
  | _ => none
def putAt (o k v : D) (st : Store) : Option Store := match obj st o with
  | some (.lst xs) => match k with
    | .int i => (ixN xs.length i).map fun j => setO o (.lst (xs.set j v)) st
    | _ => none
  | some (.dic kvs) => if keyOk kvs k ∧ kvs.length < lim then some (setO o (.dic (putD kvs k v)) st) else none
  | _ => none
def forL (f : D → Slots → Store → RS) (src : List (Nat × O)) : List D → Slots → Store → RS
  | [], sl, st => if stays st src then .ok .nx sl st else .bad
  | x :: xs, sl, st => if stays st src then (match f x sl st with
      | .ok .nx sl st => forL f src xs sl st
      | .ok .ct sl st => forL f src xs sl st
      | .ok .bk sl st => .ok .nx sl st
      | .ok (.rt d) sl st => .ok (.rt d) sl st
      | .ex e sl st => .ex e sl st
      | .bad => .bad) else .bad
def whlL (c : Slots → Store → R Bool) (f : Slots → Store → RS) : Nat → Slots → Store → RS
  | 0, _, _ => .bad
  | n + 1, sl, st => RS.of (c sl st) sl fun b st => if b = true then (match f sl st with
      | .ok .nx sl st => whlL c f n sl st
      | .ok .ct sl st => whlL c f n sl st
      | .ok .bk sl st => .ok .nx sl st
      | .ok (.rt d) sl st => .ok (.rt d) sl st
      | .ex e sl st => .ex e sl st
      | .bad => .bad) else .ok .nx sl st
def RS.fin (w : Walk) : RS → RS
  | .ok f sl st => if w.held st then .ok f sl (w.free st) else .bad
  | .ex e sl st => if w.held st then .ex e sl (w.free st) else .bad
  | .bad => .bad
def fuel : Nat := 100000
mutual
def evS : S → Slots → Store → RS
  | .exp e, sl, st => RS.of (evE P call e sl st) sl fun _ st => .ok .nx sl st
  | .asg t e, sl, st => RS.of (evE P call e sl st) sl fun x st => match assign t x sl with
    | some sl' => .ok .nx sl' st
    | none => .bad
  | .asg2 i j a b, sl, st => RS.of (evE P call a sl st) sl fun x st => RS.of (evE P call b sl st) sl fun y st => .ok .nx ((sl.set i (some (.d x))).set j (some (.d y))) st
  | .fld o f e, sl, st => RS.of (evE P call e sl st) sl fun v st => RS.of (evE P call o sl st) sl fun x st => match fldD P x f v st with
    | some st' => .ok .nx sl st'
    | none => .bad
  | .put o k e, sl, st => RS.of (evE P call e sl st) sl fun v st => RS.of (evE P call o sl st) sl fun x st => RS.of (evE P call k sl st) sl fun y st => match putAt x y v st with
    | some st' => .ok .nx sl st'
    | none => .bad
  | .aug i o e, sl, st => RS.of (evE P call (.loc i) sl st) sl fun x st => RS.of (evE P call e sl st) sl fun y st => match x, y, o with
    | .int a, .int b, .add => .ok .nx (sl.set i (some (.d (.int (a + b))))) st
    | .int a, .int b, .sub => .ok .nx (sl.set i (some (.d (.int (a - b))))) st
    | _, _, _ => .bad
  | .augf a f o e, sl, st => RS.of (evE P call a sl st) sl fun p st => match obj st p with
    | some (.ins c fs) => (match fs.lookup f with
      | some (.int i) => RS.of (evE P call e sl st) sl fun y st => (match y, o with
        | .int j, .add => (match fldD P p f (.int (i + j)) st with
          | some st' => .ok .nx sl st'
          | none => .bad)
        | .int j, .sub => (match fldD P p f (.int (i - j)) st with
          | some st' => .ok .nx sl st'
          | none => .bad)
        | _, _ => .bad)
      | _ => .bad)
    | _ => .bad
  | .ife t a b, sl, st => RS.of ((evE P call t sl st).bind fun x st => R.ofO (truth st x) st) sl fun k st => if k = true then evB a sl st else evB b sl st
  | .for_ t it b, sl, st => RS.of (evI P call it sl st) sl fun w st => (forL (fun d sl st => match assign t d sl with
      | some sl' => evB b sl' st
      | none => .bad) w.src w.xs sl (w.lock st)).fin w
  | .whl t b, sl, st => whlL (fun sl st => (evE P call t sl st).bind fun x st => R.ofO (truth st x) st) (fun sl st => evB b sl st) fuel sl st
  | .ret e, sl, st => RS.of (evE P call e sl st) sl fun x st => .ok (.rt x) sl st
  | .retN, sl, st => .ok (.rt .non) sl st
  | .brk, sl, st => .ok .bk sl st
  | .cnt, sl, st => .ok .ct sl st
  | .pas, sl, st => .ok .nx sl st
  | .rais c es, sl, st => match es, P.exc.lookup c with
    | [], some (_, []) => .ex ⟨c, []⟩ sl st
    | _, _ => .bad
  | .try_ b c i h, sl, st => match evB b (noX sl) st with
    | .ok f sl st => .ok f (noX sl) st
    | .ex e sl st => if P.isSub e.cls c then (match i with
        | some i => (match evB h ((noX sl).set i (some (.x e))) st with
          | .ok f sl st => .ok f ((noX sl).set i none) st
          | _ => .bad)
        | none => (match evB h (noX sl) st with
          | .ok f sl st => .ok f (noX sl) st
          | _ => .bad)) else .ex e (noX sl) st
    | .bad => .bad
  | .tryE b c h o, sl, st => match evB b (noX sl) st with
    | .ex e sl st => if P.isSub e.cls c then (match evB h (noX sl) st with
          | .ok f sl st => .ok f (noX sl) st
          | _ => .bad) else .ex e (noX sl) st
    | .ok .nx sl st => evB o (noX sl) st
    | .ok f sl st => .ok f (noX sl) st
    | .bad => .bad
  | .bad, _, _ => .bad
def evB : List S → Slots → Store → RS
  | [], sl, st => .ok .nx sl st
  | s :: b, sl, st => match evS s sl st with
    | .ok .nx sl st => evB b sl st
    | r => r
end
/-- the def's body, from its arguments -/
def evF (F : Fn) (as : List SV) (st : Store) : R D :=
  if as.length ≤ F.np ∧ F.np ≤ as.length + F.dfl.length then
    match evB P call F.body ((as ++ (F.dfl.drop (as.length + F.dfl.length - F.np)).map SV.d).map some ++ List.replicate (F.n - F.np) none) st with
    | .ok (.rt d) _ st => .ok d st
    | .ok .nx _ st => .ok .non st
    | .ex e _ st => .ex e st
    | _ => .bad
  else .bad
end
def run (P : Prog) : Nat → Nat → List SV → Store → R D
  | 0, _, _, _ => .bad
  | n + 1, f, as, st => match P.fns[f]? with
    | some F => evF P (run P n) F as st
    | none => .bad
end Pu
end

section
set_option linter.all false
set_option maxRecDepth 100000
namespace Pu
open PySem
/-! from the program's text to the small language -/
inductive G where
  | fn (k : Nat) | cls (c : Nat) | exc (c : Nat) | con (x : Nat) | free | tried
  deriving DecidableEq
structure TC where
  N : List Str
  nm : List Str
  gl : List (Str × G)
  xv : List Str := []
  calm : Bool := true
  xok : Bool := false
def txt (x : Str) : Txt := x.cps.toList
def idx (l : List Str) (x : Str) : Option Nat := l.findIdx? (· == x)
def isVis (sc : Scope) (x : Str) : Bool := match sc.names.lookup x with
  | some .local => true
  | some .cell => true
  | some .free => true
  | _ => false
def isLoc (sc : Scope) (x : Str) : Bool := match sc.names.lookup x with
  | some .local => true
  | some .cell => true
  | _ => false
def isGl (sc : Scope) (x : Str) : Bool := match sc.names.lookup x with
  | some .globalImplicit => true
  | _ => false
def okNm (x : Str) : Bool := !(x == ("__debug__" : Str)) && !(x == ("__classdict__" : Str)) && !(x == ("__name__" : Str))
/-- the slot of a name -/
def slot (C : TC) (sc : Scope) (x : Str) : Option Nat := if isVis sc x && okNm x then idx C.N x else none
/-- the slot of a name that is stored to -/
def slotL (C : TC) (sc : Scope) (x : Str) : Option Nat := if isLoc sc x && okNm x then idx C.N x else none
def glob (C : TC) (sc : Scope) (x : Str) : Option G := if isGl sc x && okNm x then C.gl.lookup x else none
/-- a built-in's name -/
def isB (C : TC) (sc : Scope) (x : Str) (y : String) : Bool := decide (x = Str.ofString y) && decide (glob C sc x = some .free)
def notStar : Expr → Bool
  | .Starred _ _ => false
  | _ => true
def bopOf : Operator → Option Bop
  | .Add => some .add | .Sub => some .sub | .Mult => some .mul | .FloorDiv => some .fdv | .Mod => some .mod | .BitAnd => some .band | .BitOr => some .bor | .LShift => some .shl | .RShift => some .shr
  | _ => none
def copOf : CmpOp → Option Cop
  | .Eq => some .eq | .NotEq => some .ne | .Lt => some .lt | .LtE => some .le | .Gt => some .gt | .GtE => some .ge | .Is => some .is | .IsNot => some .isn | .In => some .inn | .NotIn => some .nin
def bmOf (m : Str) : Option Bm := [("append", Bm.append), ("clear", .clear), ("reverse", .reverse), ("pop", .pop), ("index", .index), ("get", .get), ("extend", .extend), ("setdefault", .setdefault), ("update", .update), ("count", .count), ("insert", .insert), ("remove", .remove), ("split", .split), ("strip", .strip), ("join", .join), ("startswith", .starts)].foldr (fun p r => if Str.ofString p.1 = m then some p.2 else r) none
def bfOf (m : Str) : Option Bf := [("len", Bf.len), ("int", .int), ("str", .str), ("all", .all), ("any", .any), ("list", .list), ("tuple", .tuple), ("sorted", .sorted), ("sum", .sum), ("max", .max), ("min", .min)].foldr (fun p r => if Str.ofString p.1 = m then some p.2 else r) none
def tyOf (m : Str) : Option Nat := [("str", 0), ("bool", 1), ("int", 2)].foldr (fun p r => if Str.ofString p.1 = m then some p.2 else r) none
/-- the position of a method call: on one line -/
def line1 (apos pos : Pos) : Bool := apos.endLine == pos.line
mutual
def tgOf (C : TC) (sc : Scope) : Expr → Option Tg
  | .Name x _ => (slotL C sc x).map .nm
  | .Tuple ts _ _ => (tgsOf C sc ts).map .tp
  | _ => none
def tgsOf (C : TC) (sc : Scope) : List Expr → Option (List Tg)
  | [] => some []
  | t :: ts => (tgOf C sc t).bind fun a => (tgsOf C sc ts).map fun as => a :: as
end
mutual
def Tg.ixs : Tg → List Nat
  | .nm i => [i]
  | .tp ts => Tg.ixss ts
def Tg.ixss : List Tg → List Nat
  | [] => []
  | t :: ts => t.ixs ++ Tg.ixss ts
end
/-- the own names of a comprehension, with their slots -/
def ownOf (C : TC) (scope : Scope) : List (Str × Nat) := scope.names.filterMap fun y => match y.2 with
  | .local => (idx C.N y.1).map fun i => (y.1, i)
  | .cell => (idx C.N y.1).map fun i => (y.1, i)
  | _ => none
/-- what a comprehension's block asks (blkC) -/
def blkQ (N : List Str) (sc scope : Scope) (own : List (Str × Nat)) : Bool :=
  decide (scope.kind = .function) && (scope.names.all fun y => decide (scope.names.lookup y.1 = some y.2)) && (own.all fun p => decide (N[p.2]? = some p.1)) && scope.names.all fun y => match y.2 with
    | .free => decide (sc.names.lookup y.1 = some .cell) || decide (sc.names.lookup y.1 = some .free)
    | .local => decide (y.1 ∈ own.map (·.1)) || decide (y.1 ∉ N)
    | .cell => decide (y.1 ∈ own.map (·.1)) || decide (y.1 ∉ N)
    | _ => true
/-- a block's scope as it runs in another one -/
def relQ (scope sc : Scope) : Scope :=
  { scope with names := scope.names.map fun (n, k) => if (k == .free && sc.kind == .function && sc.names.lookup n == some .cell) then (n, .cell) else (n, k) }
/-- walks of pairs want a tuple for their target -/
def pairI : E → Bool
  | .enm _ => true
  | .zip2 _ _ => true
  | .zip3 _ _ _ => true
  | .items _ => true
  | _ => false
def isTp : Tg → Bool
  | .tp _ => true
  | _ => false
def itOk (t : Tg) (e : E) : Bool := isTp t || !pairI e
def noArgs : Arguments → Bool
  | ⟨[], [], none, [], [], none, []⟩ => true
  | _ => false
/-- a lambda's names: captured ones, globals -/
def lamQ (sc scope : Scope) : Bool :=
  decide (scope.kind = .function) && !scope.isCoroutine && !scope.isGenerator && scope.names.all fun y => !decide (y.2 = .local) && !decide (y.2 = .cell) && (!decide (y.2 = .free) || decide (sc.names.lookup y.1 = some .cell) || decide (sc.names.lookup y.1 = some .free))
def isSuper : Expr → Bool
  | .Call (.Name x _) [] [] _ => decide (x = ("super" : Str))
  | _ => false
/-- a set display behind in -/
def behindM (op : CmpOp) : Expr → Bool
  | .Set _ _ _ => true
  | _ => false
section
variable (C : TC) (self : Scope → Expr → E) (sc : Scope)
/-- what is walked: a call of a built-in, else any -/
def erI1 (f : Str) (args : List Expr) : Option E :=
  if isB C sc f "range" then (match args with
    | [a] => if notStar a then some (.rng1 (self sc a)) else none
    | [a, b] => if notStar a && notStar b then some (.rng2 (self sc a) (self sc b)) else none
    | _ => none)
  else if isB C sc f "enumerate" then (match args with
    | [a] => if notStar a then some (.enm (self sc a)) else none
    | _ => none)
  else if isB C sc f "zip" then (match args with
    | [a, b] => if notStar a && notStar b then some (.zip2 (self sc a) (self sc b)) else none
    | [a, b, c] => if notStar a && notStar b && notStar c then some (.zip3 (self sc a) (self sc b) (self sc c)) else none
    | _ => none)
  else none
def erI (e : Expr) : E := match e with
  | .Call (.Name f _) args [] _ => (erI1 C self sc f args).getD (.itr (self sc e))
  | .Call (.Attribute o m apos) [] [] pos => if m = ("items" : Str) then (if line1 apos pos && !isSuper o then .items (self sc o) else .bad) else if m = ("values" : Str) then (if line1 apos pos && !isSuper o then .vals (self sc o) else .bad) else .itr (self sc e)
  | .Set _ _ _ => .bad
  | _ => .itr (self sc e)
/-- the slot of a name that an exception stands at -/
def xslot (e : Expr) : Option Nat := match e with
  | .Name x _ => if C.xok = true ∧ x ∈ C.xv then slot C sc x else none
  | _ => none
/-- a call of a built-in -/
def erB (f : Str) (args : List Expr) : E :=
  if f = ("isinstance" : Str) then (match args with
    | [a, .Name t _] => (match xslot C sc a with
      | some i => (match glob C sc t with
        | some (.exc k) => .isex i k
        | some .free => if t = ("ValueError" : Str) then ((idx C.nm t).map fun k => E.isex i k).getD .bad else .bad
        | _ => .bad)
      | none => (match glob C sc t, tyOf t with
        | some .free, some k => if notStar a then .isty k (self sc a) else .bad
        | _, _ => .bad))
    | _ => .bad)
  else if C.calm then (match bfOf f with
    | some b => .blt b (args.map (self sc))
    | none => .bad) else .bad
/-- a call of a name -/
def erC (f : Str) (args : List Expr) : E :=
  if args.all notStar then
  match glob C sc f with
  | some (.fn k) => (match args with
    | [a] => (match xslot C sc a with
      | some i => .callx k i
      | none => if C.calm then .call k (args.map (self sc)) else .bad)
    | _ => if C.calm then .call k (args.map (self sc)) else .bad)
  | some (.cls c) => if args.isEmpty || !C.calm then .bad else .make c (args.map (self sc))
  | some .free => erB C self sc f args
  | some .tried => (match args with
    | [.Lambda params body scope _] => if C.xok && C.calm && noArgs params && lamQ sc scope then .tried (self scope body) else .bad
    | _ => .bad)
  | _ => .bad
  else .bad
/-- a call of a method -/
def erM (o : Expr) (m : Str) (apos : Pos) (args : List Expr) (pos : Pos) : E :=
  if args.all notStar && decide (args.length < 20) && line1 apos pos && !isSuper o then
    match bmOf m, args with
    | some .pop, [] => .bm .pop (self sc o) []
    | some .pop, [.Constant (.int 0) _ _] => .bm .pop0 (self sc o) []
    | some .clear, [] => .bm .clear (self sc o) []
    | some .reverse, [] => .bm .reverse (self sc o) []
    | some .append, [a] => .bm .append (self sc o) [self sc a]
    | some .index, [a] => .bm .index (self sc o) [self sc a]
    | some .extend, [a] => .bm .extend (self sc o) [self sc a]
    | some .get, [a] => .bm .get (self sc o) [self sc a]
    | some _, _ => .bad
    | none, _ => if C.calm then ((idx C.nm m).map fun k => E.met k (self sc o) (args.map (self sc))).getD .bad else .bad
  else .bad
def erStep (e : Expr) : E := match e with
  | .BoolOp op vs pos => (match op, vs with
    | _, [a] => self sc a
    | .And, a :: b :: r => .and (self sc a) (self sc (.BoolOp .And (b :: r) pos))
    | .Or, a :: b :: r => .or (self sc a) (self sc (.BoolOp .Or (b :: r) pos))
    | _, [] => .bad)
  | .BinOp a op b _ => ((bopOf op).map fun o => E.bin o (self sc a) (self sc b)).getD .bad
  | .UnaryOp .Not a _ => .not (self sc a)
  | .UnaryOp .USub (.Constant (.int i) _ _) _ => .int (-i)
  | .IfExp t a b _ => .ife (self sc t) (self sc a) (self sc b)
  | .Dict ks vs _ => if ks.length = vs.length ∧ ks.length ≤ 15 then
      (((ks.zip vs).mapM fun (p : Option Expr × Expr) => p.1.map fun k => [self sc k, self sc p.2]).map fun l => E.dic l.flatten).getD .bad else .bad
  | .ListComp elt [⟨tg, iter, ifs, 0⟩] scope _ => (match tgOf C scope tg with
    | some t => if C.calm && decide (ifs.length ≤ 1) && blkQ C.N sc scope (ownOf C scope) && (t.ixs.all fun i => (ownOf C scope).any fun p => p.2 == i) && itOk t (erI C self sc iter) then
        .comp (self (relQ scope sc) elt) t (erI C self sc iter) (ifs.map (self (relQ scope sc))) ((ownOf C scope).map (·.2)) else .bad
    | none => .bad)
  | .Compare a [op] [b] _ => if behindM op b then .bad else ((copOf op).map fun o => E.cmp o (self sc a) (self sc b)).getD .bad
  | .Compare a [op, op'] [b, c] _ => if behindM op' c then .bad else ((copOf op).bind fun o => (copOf op').map fun o' => E.chain o o' (self sc a) (self sc b) (self sc c)).getD .bad
  | .Call (.Name f _) args [] _ => erC C self sc f args
  | .Call (.Attribute o m apos) args [] pos => erM C self sc o m apos args pos
  | .Constant c _ _ => (match c with
    | .none => .non
    | .bool b => .bl b
    | .int i => .int i
    | .str s => if okS (txt s) then .str (txt s) else .bad
    | _ => .bad)
  | .Attribute o f _ => if isSuper o then .bad else ((idx C.nm f).map fun k => E.att (self sc o) k).getD .bad
  | .Subscript a b _ => (match b with
    | .Slice lo hi none _ => .sli (self sc a) (lo.map (self sc)) (hi.map (self sc))
    | .Slice none none (some (.UnaryOp .USub (.Constant (.int 1) _ _) _)) _ => .rev (self sc a)
    | .Slice _ _ _ _ => .bad
    | _ => .sub (self sc a) (self sc b))
  | .Name x _ => if x ∈ C.xv then .bad else (match slot C sc x with
    | some i => .loc i
    | none => match glob C sc x with
      | some (.con k) => .glo k
      | _ => .bad)
  | .List es _ => if es.all notStar then .lst (es.map (self sc)) else .bad
  | .Tuple es _ _ => if es.all notStar then .tup (es.map (self sc)) else .bad
  | _ => .bad
end
def er (C : TC) : Nat → Scope → Expr → E
  | 0, _, _ => .bad
  | n + 1, sc, e => erStep C (er C n) sc e
def isSlice : Expr → Bool
  | .Slice _ _ _ _ => true
  | _ => false
/-- .. within the suite of a handler -/
def TC.hd (C : TC) (n : Option Str) : TC := { C with xv := n.toList ++ C.xv, calm := false }
def isTupE : Expr → Bool
  | .Tuple _ _ _ => true
  | _ => false
section
variable (C : TC) (sc : Scope) (rec : Stmt → S) (hrec : Option Str → Stmt → S) (er1 : Scope → Expr → E)
/-- x, y = a, b -/
def asg2Of (ts : List Expr) (e : Expr) : S := .bad
def raiseOf (x : Str) (es : List Expr) : S := if C.calm then (match glob C sc x with
  | some (.exc c) => (match es with
    | [.Constant (.str _) _ _] => .rais c []
    | _ => .bad)
  | _ => .bad) else .bad
def tryOf (b : List Stmt) (x : Str) (n : Option Str) (h : List Stmt) (o : List Stmt) : S := if C.calm then (match glob C sc x with
  | some (.exc c) => (match n with
    | none => if o.isEmpty then .try_ (b.map rec) c none (h.map (hrec none)) else .tryE (b.map rec) c (h.map (hrec none)) (o.map rec)
    | some y => if C.xok && o.isEmpty && decide (sc.names.lookup y = some .local) then ((slotL C sc y).map fun i => S.try_ (b.map rec) c (some i) (h.map (hrec (some y)))).getD .bad else .bad)
  | _ => .bad) else .bad
def esStep (s : Stmt) : S := match s with
  | .Return none _ => .retN
  | .Return (some e) _ => .ret (er1 sc e)
  | .Assign [t] e _ => (match t with
    | .Name x _ => ((slotL C sc x).map fun i => S.asg (.nm i) (er1 sc e)).getD .bad
    | .Tuple ts _ _ => if C.calm then (if isTupE e then asg2Of ts e else ((tgsOf C sc ts).map fun t => S.asg (.tp t) (er1 sc e)).getD .bad) else .bad
    | .Attribute o f _ => if isSuper o then .bad else ((idx C.nm f).map fun k => S.fld (er1 sc o) k (er1 sc e)).getD .bad
    | .Subscript o k _ => if isSlice k then .bad else .put (er1 sc o) (er1 sc k) (er1 sc e)
    | _ => .bad)
  | .AugAssign t op e _ => (match bopOf op with
    | none => .bad
    | some o => (match t with
      | .Name x _ => ((slotL C sc x).map fun i => S.aug i o (er1 sc e)).getD .bad
      | _ => .bad))
  | .For t it b [] _ => if C.calm then ((tgOf C sc t).map fun t => if itOk t (erI C er1 sc it) then S.for_ t (erI C er1 sc it) (b.map rec) else .bad).getD .bad else .bad
  | .While t b [] _ => .whl (er1 sc t) (b.map rec)
  | .If t a b _ => .ife (er1 sc t) (a.map rec) (b.map rec)
  | .Raise (some (.Call (.Name x _) es [] _)) none _ => raiseOf C sc x es
  | .Try b [.ExceptHandler (some (.Name x _)) n (h0 :: h) _] o [] _ => tryOf C sc rec hrec b x n (h0 :: h) o
  | .Expr e _ => (match e with
    | .ListComp _ _ _ _ => .bad
    | .SetComp _ _ _ _ => .bad
    | .DictComp _ _ _ _ _ => .bad
    | _ => .exp (er1 sc e))
  | .Pass _ => .pas
  | .Break _ => .brk
  | .Continue _ => .cnt
  | _ => .bad
end
def es (m : Nat) : Nat → TC → Scope → Stmt → S
  | 0, _, _, _ => .bad
  | n + 1, C, sc, s => esStep C sc (es m n C sc) (fun y => es m n (C.hd y) sc) (er C m) s
def esB (C : TC) (sc : Scope) (n m : Nat) (b : List Stmt) : List S := b.map (es m n C sc)
end Pu
end

section
set_option Elab.async false
set_option linter.all false
set_option maxRecDepth 100000
set_option maxHeartbeats 4000000
namespace Pu
open PySem PySem.Spec L2

/-- the tables of code objects that the program's lambdas write to, each with its lambdas' name -/
class Tb where
  T : List (Addr × Str)
  /-- the exceptions' classes -/
  xc : List Nat
/-! how the small language's things lie in the abstract heap -/
/-- what never changes but where it is an own object: all but a table -/
def Ntb : HO → Prop
  | .tbl _ => False
  | _ => True
def sOf (s : Txt) : Str := ⟨s.toArray⟩
def SRl (K : PySem.W.Frag) (H : Hp) (a : Addr) (xs : List V) : Prop := (∃ o, H a = some (.frz o (.lst xs))) ∨
    ∃ (o : Obj) (its : Array Value) (n : Nat), K.lookup a = some o ∧ o.cls = .type "list" ∧ o.dict = none ∧ o.data = .seq its n ∧ its.size ≤ sizeLine ∧ Vals xs its.toList
theorem SRl.sq {K : PySem.W.Frag} {H : Hp} {a : Addr} {xs : List V} (h : SRl K H a xs) : SqL K H a xs := by
  rcases h with ⟨o, h⟩ | h
  · exact .inl (.inr ⟨o, h⟩)
  · exact .inr h
mutual
def Rep (K : PySem.W.Frag) (as : List Addr) (H : Hp) : D → V → Prop
  | .non, v => v = .non
  | .bl b, v => v = .bl b
  | .int i, v => v = .int i
  | .str s, v => v = .str (sOf s) ∧ okS s = true
  | .tup xs, v => ∃ p us, v = .ref p ∧ H p = some (.tup us) ∧ Reps K as H xs us
  | .ptr i, v => ∃ p, as[i]? = some p ∧ v = .ref p
  | .scr ns, v => ∃ p, v = .ref p ∧ SRl K H p (ns.map V.int)
def Reps (K : PySem.W.Frag) (as : List Addr) (H : Hp) : List D → List V → Prop
  | [], us => us = []
  | d :: ds, us => ∃ u r, us = u :: r ∧ Rep K as H d u ∧ Reps K as H ds r
end
/-- what an own address may hold -/
def Own : HO → Prop
  | .lst _ => True
  | .dK _ => True
  | .dT _ => True
  | .ins _ _ _ => True
  | .frz _ (.dK _) => True
  | .frz _ (.dT _) => True
  | _ => False
def Owns (as : List Addr) (H : Hp) : Prop := ∀ p ∈ as, ∃ o, H p = some o ∧ Own o
structure Ev (as : List Addr) (H : Hp) (as' : List Addr) (H' : Hp) : Prop where
  pre : ∃ t, as' = as ++ t
  keep : ∀ p o, H p = some o → p ∉ as → Ntb o → H' p = some o
  new : ∀ p ∈ as', p ∉ as → H p = none
  dom : ∀ p, H p ≠ none → H' p ≠ none
  frz : ∀ p o u, p ∈ as → H p = some (.frz o u) → H' p = some (.frz o u)
section
variable {K : PySem.W.Frag} {as as' as2 : List Addr} {H H' H2 : Hp}
theorem Ev.refl (as : List Addr) (H : Hp) : Ev as H as H := ⟨⟨[], by simp⟩, fun _ _ h _ _ => h, fun _ h n => (n h).elim, fun _ h => h, fun _ _ _ _ h => h⟩
theorem Ev.trans (a : Ev as H as' H') (b : Ev as' H' as2 H2) : Ev as H as2 H2 := by
  obtain ⟨t, ht⟩ := a.pre
  obtain ⟨t2, ht2⟩ := b.pre
  refine ⟨⟨t ++ t2, by rw [ht2, ht, List.append_assoc]⟩, fun p o h n z => ?_, fun p h n => ?_, fun p h => b.dom p (a.dom p h), fun p o u hp h => b.frz p o u (by rw [ht]; exact List.mem_append_left _ hp) (a.frz p o u hp h)⟩
  · refine b.keep p o (a.keep p o h n z) (fun h2 => ?_) z
    rw [a.new p h2 n] at h
    cases h
  · by_cases h2 : p ∈ as'
    · exact a.new p h2 n
    · have h3 := b.new p h h2
      cases q : H p with
      | none => rfl
      | some o => exact (a.dom p (by rw [q]; exact fun z => nomatch z) h3).elim
theorem Owns.no (o : Owns as H) {p : Addr} {x : HO} (h : H p = some x) (n : ¬ Own x) : p ∉ as := fun hp => by
  obtain ⟨y, h2, h3⟩ := o p hp
  rw [h] at h2
  cases h2
  exact n h3
theorem Ev.at (e : Ev as H as' H') {i : Nat} {p : Addr} (h : as[i]? = some p) : as'[i]? = some p := by
  obtain ⟨t, ht⟩ := e.pre
  rw [ht, List.getElem?_append_left (List.getElem?_eq_some_iff.mp h).1]
  exact h
/-- what a change may not touch -/
structure Lk (as : List Addr) (H : Hp) (as' : List Addr) (H' : Hp) : Prop where
  pre : ∃ t, as' = as ++ t
  keep : ∀ p o, H p = some o → ¬ Own o → Ntb o → H' p = some o
theorem Lk.at (e : Lk as H as' H') {i : Nat} {p : Addr} (h : as[i]? = some p) : as'[i]? = some p := by
  obtain ⟨t, ht⟩ := e.pre
  rw [ht, List.getElem?_append_left (List.getElem?_eq_some_iff.mp h).1]
  exact h
theorem Ev.lk (w : Owns as H) (e : Ev as H as' H') : Lk as H as' H' := ⟨e.pre, fun p o h n z => e.keep p o h (w.no h n) z⟩
theorem SRl.lk {p : Addr} {xs : List V} (e : Lk as H as' H') (h : SRl K H p xs) : SRl K H' p xs := by
  rcases h with ⟨o, h⟩ | h
  · exact .inl ⟨o, e.keep _ _ h (fun z => z) trivial⟩
  · exact .inr h
mutual
theorem Rep.lk (e : Lk as H as' H') : ∀ (d : D) (v : V), Rep K as H d v → Rep K as' H' d v
  | .non, v, h => h
  | .bl b, v, h => h
  | .int i, v, h => h
  | .str s, v, h => h
  | .tup xs, v, h => by
    obtain ⟨p, us, e1, g, r⟩ := (show ∃ p us, v = .ref p ∧ H p = some (.tup us) ∧ Reps K as H xs us from h)
    exact ⟨p, us, e1, e.keep _ _ g (fun z => z) trivial, Reps.lk e xs us r⟩
  | .ptr i, v, h => by
    obtain ⟨p, h1, h2⟩ := (show ∃ p, as[i]? = some p ∧ v = .ref p from h)
    exact ⟨p, e.at h1, h2⟩
  | .scr ns, v, h => by
    obtain ⟨p, h1, h2⟩ := (show ∃ p, v = .ref p ∧ SRl K H p (ns.map V.int) from h)
    exact ⟨p, h1, h2.lk e⟩
theorem Reps.lk (e : Lk as H as' H') : ∀ (ds : List D) (us : List V), Reps K as H ds us → Reps K as' H' ds us
  | [], _, h => h
  | d :: ds, us, h => by
    obtain ⟨u, r, e1, h1, h2⟩ := (show ∃ u r, us = u :: r ∧ Rep K as H d u ∧ Reps K as H ds r from h)
    exact ⟨u, r, e1, Rep.lk e d u h1, Reps.lk e ds r h2⟩
end
theorem SRl.ev {p : Addr} {xs : List V} (w : Owns as H) (e : Ev as H as' H') (h : SRl K H p xs) : SRl K H' p xs := h.lk (e.lk w)
theorem Rep.ev (w : Owns as H) (e : Ev as H as' H') (d : D) (v : V) (h : Rep K as H d v) : Rep K as' H' d v := Rep.lk (e.lk w) d v h
theorem Reps.ev (w : Owns as H) (e : Ev as H as' H') (ds : List D) (us : List V) (h : Reps K as H ds us) : Reps K as' H' ds us := Reps.lk (e.lk w) ds us h
theorem Reps.length : ∀ {ds : List D} {us : List V}, Reps K as H ds us → us.length = ds.length
  | [], _, h => by
    have e := (show _ = [] from h)
    rw [e]; rfl
  | d :: ds, us, h => by
    obtain ⟨u, r, e, _, h2⟩ := (show ∃ u r, us = u :: r ∧ Rep K as H d u ∧ Reps K as H ds r from h)
    rw [e, List.length_cons, List.length_cons, Reps.length h2]
theorem Reps.cons {d : D} {v : V} {ds : List D} {us : List V} (h : Rep K as H d v) (r : Reps K as H ds us) : Reps K as H (d :: ds) (v :: us) := ⟨v, us, rfl, h, r⟩
theorem Reps.inv {d : D} {ds : List D} {us : List V} (h : Reps K as H (d :: ds) us) : ∃ u r, us = u :: r ∧ Rep K as H d u ∧ Reps K as H ds r := h
theorem Reps.nil_inv {us : List V} (h : Reps K as H [] us) : us = [] := h
theorem Reps.get : ∀ {ds : List D} {us : List V} {i : Nat} {d : D}, Reps K as H ds us → ds[i]? = some d → ∃ u, us[i]? = some u ∧ Rep K as H d u
  | [], _, i, d, _, e => by simp at e
  | d0 :: ds, us, i, d, h, e => by
    obtain ⟨u, r, e1, h1, h2⟩ := h.inv
    subst e1
    cases i with
    | zero =>
      have e' : d0 = d := by simpa using e
      subst e'
      exact ⟨u, rfl, h1⟩
    | succ i => exact Reps.get (i := i) h2 (by simpa using e)
theorem Reps.app : ∀ {ds es : List D} {us ws : List V}, Reps K as H ds us → Reps K as H es ws → Reps K as H (ds ++ es) (us ++ ws)
  | [], _, us, _, h, h' => by
    have e := h.nil_inv
    subst e
    exact h'
  | d0 :: ds, es, us, ws, h, h' => by
    obtain ⟨u, r, e1, h1, h2⟩ := h.inv
    subst e1
    exact ⟨u, r ++ ws, rfl, h1, Reps.app h2 h'⟩
theorem Reps.take : ∀ (n : Nat) {ds : List D} {us : List V}, Reps K as H ds us → Reps K as H (ds.take n) (us.take n)
  | 0, _, _, _ => rfl
  | n + 1, [], us, h => by
    have e := h.nil_inv
    subst e
    exact rfl
  | n + 1, d0 :: ds, us, h => by
    obtain ⟨u, r, e1, h1, h2⟩ := h.inv
    subst e1
    exact ⟨u, r.take n, rfl, h1, Reps.take n h2⟩
theorem Reps.drop : ∀ (n : Nat) {ds : List D} {us : List V}, Reps K as H ds us → Reps K as H (ds.drop n) (us.drop n)
  | 0, _, _, h => h
  | n + 1, [], us, h => by
    have e := h.nil_inv
    subst e
    exact rfl
  | n + 1, d0 :: ds, us, h => by
    obtain ⟨u, r, e1, h1, h2⟩ := h.inv
    subst e1
    exact Reps.drop n h2
theorem Reps.rev : ∀ {ds : List D} {us : List V}, Reps K as H ds us → Reps K as H ds.reverse us.reverse
  | [], us, h => by
    have e := h.nil_inv
    subst e
    exact rfl
  | d0 :: ds, us, h => by
    obtain ⟨u, r, e1, h1, h2⟩ := h.inv
    subst e1
    rw [List.reverse_cons, List.reverse_cons]
    exact (Reps.rev h2).app (Reps.cons h1 rfl)
theorem Reps.set {d : D} {v : V} (hv : Rep K as H d v) : ∀ {ds : List D} {us : List V} (i : Nat), Reps K as H ds us → Reps K as H (ds.set i d) (us.set i v)
  | [], us, i, h => by
    have e := h.nil_inv
    subst e
    exact rfl
  | d0 :: ds, us, i, h => by
    obtain ⟨u, r, e1, h1, h2⟩ := h.inv
    subst e1
    cases i with
    | zero => exact Reps.cons hv h2
    | succ i => exact Reps.cons h1 (Reps.set hv i h2)
end
/-! dicts -/
def keyK : D → Option Key
  | .int i => some (.inl i)
  | .str s => if okS s then some (.inr (sOf s)) else none
  | _ => none
def keysK : List D → Option (List Key)
  | [] => some []
  | d :: ds => (keyK d).bind fun k => (keysK ds).map fun ks => k :: ks
def keyT : D → Option (List Key)
  | .tup xs => keysK xs
  | _ => none
def DRepG {κ : Type} (key : D → Option κ) (K : PySem.W.Frag) (as : List Addr) (H : Hp) : List (D × D) → List (κ × V) → Prop
  | [], l => l = []
  | kv :: kvs, l => ∃ k v r, l = (k, v) :: r ∧ key kv.1 = some k ∧ Rep K as H kv.2 v ∧ DRepG key K as H kvs r
def DRep (K : PySem.W.Frag) (as : List Addr) (H : Hp) (kvs : List (D × D)) (o : HO) : Prop := (∃ l, o = .dK l ∧ DRepG keyK K as H kvs l) ∨ ∃ l, o = .dT l ∧ DRepG keyT K as H kvs l
def FRep (nm : List Str) (K : PySem.W.Frag) (as : List Addr) (H : Hp) : List (Nat × D) → List (Str × V) → Prop
  | [], l => l = []
  | f :: fs, l => ∃ x v r, l = (x, v) :: r ∧ nm[f.1]? = some x ∧ Rep K as H f.2 v ∧ FRep nm K as H fs r
def OAt (nm : List Str) (K : PySem.W.Frag) (mg : Str → Option Value) (as : List Addr) (H : Hp) (p : Addr) : O → Prop
  | .lst xs => ∃ us, H p = some (.lst us) ∧ Reps K as H xs us
  | .dic kvs => ∃ ho, H p = some ho ∧ DRep K as H kvs ho
  | .frz kvs => ∃ ob ho, H p = some (.frz ob ho) ∧ DRep K as H kvs ho
  | .ins c fs => ∃ x C dx fs', nm[c]? = some x ∧ mg x = some (.ref C) ∧ Cls K C ∧ (∀ q ∈ fs, ∀ y, nm[q.1]? = some y → NoAttr K C y) ∧ H p = some (.ins C dx fs') ∧ FRep nm K as H fs fs'
structure StOk [tb : Tb] (nm : List Str) (K : PySem.W.Frag) (mg : Str → Option Value) (as : List Addr) (st : Store) (H : Hp) : Prop where
  nd : as.Nodup
  len : as.length = st.length
  at_ : ∀ (i : Nat) (o : O) (p : Addr), st[i]? = some o → as[i]? = some p → OAt nm K mg as H p o
  tab : LamX.Tabs tb.T H
section
variable [tb : Tb]
variable {nm : List Str} {K : PySem.W.Frag} {mg : Str → Option Value} {as as' : List Addr} {H H' : Hp} {st : Store}
theorem DRepG.lk {κ : Type} {key : D → Option κ} (e : Lk as H as' H') : ∀ {kvs : List (D × D)} {l : List (κ × V)}, DRepG key K as H kvs l → DRepG key K as' H' kvs l
  | [], _, h => h
  | kv :: kvs, l, h => by
    obtain ⟨k, v, r, e1, h1, h2, h3⟩ := (show ∃ k v r, l = (k, v) :: r ∧ key kv.1 = some k ∧ Rep K as H kv.2 v ∧ DRepG key K as H kvs r from h)
    exact ⟨k, v, r, e1, h1, Rep.lk e _ _ h2, DRepG.lk e h3⟩
theorem DRep.lk (e : Lk as H as' H') {kvs : List (D × D)} {o : HO} (h : DRep K as H kvs o) : DRep K as' H' kvs o := by
  rcases h with ⟨l, h1, h2⟩ | ⟨l, h1, h2⟩
  · exact .inl ⟨l, h1, h2.lk e⟩
  · exact .inr ⟨l, h1, h2.lk e⟩
theorem FRep.lk (e : Lk as H as' H') : ∀ {fs : List (Nat × D)} {l : List (Str × V)}, FRep nm K as H fs l → FRep nm K as' H' fs l
  | [], _, h => h
  | f :: fs, l, h => by
    obtain ⟨x, v, r, e1, h1, h2, h3⟩ := (show ∃ x v r, l = (x, v) :: r ∧ nm[f.1]? = some x ∧ Rep K as H f.2 v ∧ FRep nm K as H fs r from h)
    exact ⟨x, v, r, e1, h1, Rep.lk e _ _ h2, FRep.lk e h3⟩
theorem DRep.ev (w : Owns as H) (e : Ev as H as' H') {kvs : List (D × D)} {o : HO} (h : DRep K as H kvs o) : DRep K as' H' kvs o := h.lk (e.lk w)
theorem FRep.ev (w : Owns as H) (e : Ev as H as' H') {fs : List (Nat × D)} {l : List (Str × V)} (h : FRep nm K as H fs l) : FRep nm K as' H' fs l := h.lk (e.lk w)
theorem DRep.own {kvs : List (D × D)} {o : HO} (h : DRep K as H kvs o) : Own o ∧ ∀ ob, Own (.frz ob o) := by
  rcases h with ⟨l, h1, h2⟩ | ⟨l, h1, h2⟩ <;> (subst h1; exact ⟨trivial, fun _ => trivial⟩)
theorem OAt.own {p : Addr} {o : O} (h : OAt nm K mg as H p o) : ∃ x, H p = some x ∧ Own x := by
  cases o with
  | lst xs => obtain ⟨us, h1, _⟩ := h; exact ⟨_, h1, trivial⟩
  | dic kvs => obtain ⟨ho, h1, h2⟩ := h; exact ⟨_, h1, h2.own.1⟩
  | frz kvs => obtain ⟨ob, ho, h1, h2⟩ := h; exact ⟨_, h1, h2.own.2 ob⟩
  | ins c fs => obtain ⟨x, C, dx, fs', _, _, _, _, h1, _⟩ := h; exact ⟨_, h1, trivial⟩
theorem StOk.owns (S : StOk nm K mg as st H) : Owns as H := fun p hp => by
  obtain ⟨i, hi, e⟩ := List.mem_iff_getElem.mp hp
  have h1 : as[i]? = some p := by rw [List.getElem?_eq_getElem hi, e]
  have hi2 : i < st.length := by rw [← S.len]; exact hi
  exact (S.at_ i _ p (List.getElem?_eq_getElem hi2) h1).own
/-- an object stays where its address does -/
theorem OAt.lk (e : Lk as H as' H') {p : Addr} (hp : H' p = H p) {o : O} (h : OAt nm K mg as H p o) : OAt nm K mg as' H' p o := by
  cases o with
  | lst xs => obtain ⟨us, h1, h2⟩ := h; exact ⟨us, hp.trans h1, Reps.lk e _ _ h2⟩
  | dic kvs => obtain ⟨ho, h1, h2⟩ := h; exact ⟨ho, hp.trans h1, h2.lk e⟩
  | frz kvs => obtain ⟨ob, ho, h1, h2⟩ := h; exact ⟨ob, ho, hp.trans h1, h2.lk e⟩
  | ins c fs => obtain ⟨x, C, dx, fs', h0, h1, k1, k2, h2, h3⟩ := h; exact ⟨x, C, dx, fs', h0, h1, k1, k2, hp.trans h2, h3.lk e⟩
theorem OAt.ev (w : Owns as H) (e : Ev as H as' H') {p : Addr} (hp : H' p = H p) {o : O} (h : OAt nm K mg as H p o) : OAt nm K mg as' H' p o := h.lk (e.lk w) hp
theorem StOk.ex (S : StOk nm K mg as st H) {i : Nat} {o : O} (h : st[i]? = some o) : ∃ p, as[i]? = some p ∧ OAt nm K mg as H p o := by
  have hi : i < as.length := by rw [S.len]; exact (List.getElem?_eq_some_iff.mp h).1
  exact ⟨as[i], List.getElem?_eq_getElem hi, S.at_ i o _ h (List.getElem?_eq_getElem hi)⟩
theorem tabs_new {p : Addr} {x : HO} (hp : H p = none) (t : LamX.Tabs tb.T H) : LamX.Tabs tb.T (upd H p x) := t.ext fun b o e => by
  rw [upd_ne (ne_of_none e hp)]; exact e
theorem tabs_own {p : Addr} {x y : HO} (hp : H p = some y) (hy : Own y) (t : LamX.Tabs tb.T H) : LamX.Tabs tb.T (upd H p x) := fun q hq => by
  obtain ⟨ps, h1, h2, h3⟩ := t q hq
  have ne : ∀ b o, H b = some o → ¬ Own o → b ≠ p := fun b o e n z => by
    rw [z, hp] at e
    cases e
    exact n hy
  refine ⟨ps, by rw [upd_ne (ne _ _ h1 fun z => z)]; exact h1, h2, fun pos cv hc => ?_⟩
  obtain ⟨c, e1, e2⟩ := h3 pos cv hc
  exact ⟨c, e1, by rw [upd_ne (ne _ _ e2 fun z => z)]; exact e2⟩
/-- a new address that isn't an own one -/
theorem StOk.laid (S : StOk nm K mg as st H) {p : Addr} {x : HO} (hp : H p = none) : StOk nm K mg as st (upd H p x) ∧ Ev as H as (upd H p x) := by
  have w := S.owns
  have hn : p ∉ as := fun h => by
    obtain ⟨o, h1, _⟩ := w p h
    rw [hp] at h1; cases h1
  have e : Ev as H as (upd H p x) := ⟨⟨[], by simp⟩, fun q o h _ _ => by rw [upd_ne (ne_of_none h hp)]; exact h, fun _ h n => (n h).elim, fun q h => by
    by_cases hq : q = p
    · rw [hq, upd_same]; exact fun z => nomatch z
    · rw [upd_ne hq]; exact h, fun q o u hq h => by
    rw [upd_ne fun z => hn (by rw [← z]; exact hq)]; exact h⟩
  refine ⟨⟨S.nd, S.len, fun i o q h1 h2 => (S.at_ i o q h1 h2).ev w e ?_, tabs_new hp S.tab⟩, e⟩
  exact upd_ne fun z => hn (by rw [← z]; exact List.mem_of_getElem? h2)
/-- a new own object -/
theorem StOk.new (S : StOk nm K mg as st H) {p : Addr} {x : HO} {o : O} (hp : H p = none) (ho : Own x) (h : Ev as H (as ++ [p]) (upd H p x) → OAt nm K mg (as ++ [p]) (upd H p x) p o) :
    StOk nm K mg (as ++ [p]) (st ++ [o]) (upd H p x) ∧ Ev as H (as ++ [p]) (upd H p x) := by
  have w := S.owns
  have hn : p ∉ as := fun h => by
    obtain ⟨o, h1, _⟩ := w p h
    rw [hp] at h1; cases h1
  have e : Ev as H (as ++ [p]) (upd H p x) := ⟨⟨[p], rfl⟩, fun q o h _ _ => by rw [upd_ne (ne_of_none h hp)]; exact h, fun q h n => by
    rcases List.mem_append.mp h with h | h
    · exact (n h).elim
    · rw [List.mem_singleton.mp h]; exact hp, fun q h => by
    by_cases hq : q = p
    · rw [hq, upd_same]; exact fun z => nomatch z
    · rw [upd_ne hq]; exact h, fun q o u hq h => by
    rw [upd_ne fun z => hn (by rw [← z]; exact hq)]; exact h⟩
  refine ⟨⟨?_, by simp [S.len], fun i o' q h1 h2 => ?_, tabs_new hp S.tab⟩, e⟩
  · refine List.nodup_append.mpr ⟨S.nd, by simp, fun a ha b hb => ?_⟩
    rw [List.mem_singleton.mp hb]
    exact fun z => hn (by rw [← z]; exact ha)
  · by_cases hi : i < st.length
    · rw [List.getElem?_append_left hi] at h1
      rw [List.getElem?_append_left (by rw [S.len]; exact hi)] at h2
      exact (S.at_ i o' q h1 h2).ev w e (upd_ne fun z => hn (by rw [← z]; exact List.mem_of_getElem? h2))
    · have h3 : i = st.length := by
        have := (List.getElem?_eq_some_iff.mp h1).1
        simp at this; omega
      subst h3
      rw [List.getElem?_append_right (Nat.le_refl _), Nat.sub_self] at h1
      rw [← S.len, List.getElem?_append_right (Nat.le_refl _), Nat.sub_self] at h2
      have e1 : o = o' := by simpa using h1
      have e2 : p = q := by simpa using h2
      subst e1 e2
      exact h e
/-- an own object changed -/
theorem StOk.set (S : StOk nm K mg as st H) {i : Nat} {p : Addr} {x : HO} {o o0 : O} (h0 : st[i]? = some o0) (hp : as[i]? = some p) (ho : Own x) (h : Ev as H as (upd H p x) → OAt nm K mg as (upd H p x) p o) (hf : ∀ kvs, o0 ≠ .frz kvs := by intro _ z; cases z) :
    StOk nm K mg as (st.set i o) (upd H p x) ∧ Ev as H as (upd H p x) := by
  have w := S.owns
  have nf : ∀ ob u, H p ≠ some (.frz ob u) := fun ob u e => by
    have := S.at_ i o0 p h0 hp
    cases o0 with
    | lst xs => obtain ⟨us, h1, _⟩ := this; rw [e] at h1; cases h1
    | dic kvs => obtain ⟨ho, h1, h2⟩ := this; rw [e] at h1; cases h1; rcases h2 with ⟨_, h2, _⟩ | ⟨_, h2, _⟩ <;> cases h2
    | frz kvs => exact hf kvs rfl
    | ins c fs => obtain ⟨x, C, dx, fs', _, _, _, _, h1, _⟩ := this; rw [e] at h1; cases h1
  have e : Ev as H as (upd H p x) := ⟨⟨[], by simp⟩, fun q o h n _ => by rw [upd_ne fun z => n (by rw [z]; exact List.mem_of_getElem? hp)]; exact h, fun _ h n => (n h).elim, fun q h => by
    by_cases hq : q = p
    · rw [hq, upd_same]; exact fun z => nomatch z
    · rw [upd_ne hq]; exact h, fun q o u hq h => by
    rw [upd_ne fun z => nf o u (by rw [← z]; exact h)]; exact h⟩
  refine ⟨⟨S.nd, by simp [S.len], fun j o' q h1 h2 => ?_, ?_⟩, e⟩
  rotate_left
  · obtain ⟨y, h1, h2⟩ := w p (List.mem_of_getElem? hp)
    exact tabs_own h1 h2 S.tab
  by_cases hj : i = j
  · subst hj
    rw [hp] at h2
    cases h2
    rw [List.getElem?_set_self (List.getElem?_eq_some_iff.mp h0).1] at h1
    cases h1
    exact h e
  · rw [List.getElem?_set_ne hj] at h1
    refine (S.at_ j o' q h1 h2).ev w e (upd_ne fun z => ?_)
    subst z
    exact hj ((List.getElem?_inj (List.getElem?_eq_some_iff.mp hp).1 S.nd).mp (hp.trans h2.symm))
/-- an own object told anew, locked or not -/
theorem StOk.setL (S : StOk nm K mg as st H) {i : Nat} {p : Addr} {x : HO} {o o0 : O} (h0 : st[i]? = some o0) (hp : as[i]? = some p) (h : Lk as H as (upd H p x) → OAt nm K mg as (upd H p x) p o) :
    StOk nm K mg as (st.set i o) (upd H p x) := by
  obtain ⟨y, hy1, hy2⟩ := S.owns p (List.mem_of_getElem? hp)
  have e : Lk as H as (upd H p x) := ⟨⟨[], by simp⟩, fun q o h n _ => by
    rw [upd_ne fun z => n (by rw [z, hy1] at h; cases h; exact hy2)]; exact h⟩
  refine ⟨S.nd, by simp [S.len], fun j o' q h1 h2 => ?_, tabs_own hy1 hy2 S.tab⟩
  by_cases hj : i = j
  · subst hj
    rw [hp] at h2
    cases h2
    rw [List.getElem?_set_self (List.getElem?_eq_some_iff.mp h0).1] at h1
    cases h1
    exact h e
  · rw [List.getElem?_set_ne hj] at h1
    refine (S.at_ j o' q h1 h2).lk e (upd_ne fun z => ?_)
    subst z
    exact hj ((List.getElem?_inj (List.getElem?_eq_some_iff.mp hp).1 S.nd).mp (hp.trans h2.symm))
/-- an object that stands by, changed -/
theorem StOk.by_ (S : StOk nm K mg as st H) {p : Addr} {x y : HO} (hp : H p = some y) (hy : Own y) (hn : p ∉ as) : StOk nm K mg as st (upd H p x) ∧ Lk as H as (upd H p x) := by
  have e : Lk as H as (upd H p x) := ⟨⟨[], by simp⟩, fun q o h n _ => by
    rw [upd_ne fun z => n (by rw [z, hp] at h; cases h; exact hy)]; exact h⟩
  exact ⟨⟨S.nd, S.len, fun i o q h1 h2 => (S.at_ i o q h1 h2).lk e (upd_ne fun z => hn (by rw [← z]; exact List.mem_of_getElem? h2)), tabs_own hp hy S.tab⟩, e⟩
/-- an object that stood by, made an own one -/
theorem StOk.adopt (S : StOk nm K mg as st H) {as0 : List Addr} {H0 : Hp} (e0 : Ev as0 H0 as H) {p : Addr} {x y : HO} {o : O} (hp0 : H0 p = none) (hp : H p = some y) (hy : Own y) (hn : p ∉ as) (h : Lk as H (as ++ [p]) (upd H p x) → OAt nm K mg (as ++ [p]) (upd H p x) p o) :
    StOk nm K mg (as ++ [p]) (st ++ [o]) (upd H p x) ∧ Ev as0 H0 (as ++ [p]) (upd H p x) := by
  have e : Lk as H (as ++ [p]) (upd H p x) := ⟨⟨[p], rfl⟩, fun q u hu n _ => by
    by_cases hq : q = p
    · rw [hq, hp] at hu; cases hu; exact (n hy).elim
    · rw [upd_ne hq]; exact hu⟩
  refine ⟨⟨?_, by simp [S.len], fun i o' q h1 h2 => ?_, tabs_own hp hy S.tab⟩, ?_, fun q u h n z => ?_, fun q h n => ?_, fun q h => ?_, fun q ob u hq h => ?_⟩
  · refine List.nodup_append.mpr ⟨S.nd, by simp, fun a ha b hb => ?_⟩
    rw [List.mem_singleton.mp hb]
    exact fun z => hn (by rw [← z]; exact ha)
  · by_cases hi : i < st.length
    · rw [List.getElem?_append_left hi] at h1
      rw [List.getElem?_append_left (by rw [S.len]; exact hi)] at h2
      exact (S.at_ i o' q h1 h2).lk e (upd_ne fun z => hn (by rw [← z]; exact List.mem_of_getElem? h2))
    · have h3 : i = st.length := by
        have := (List.getElem?_eq_some_iff.mp h1).1
        simp at this; omega
      subst h3
      rw [List.getElem?_append_right (Nat.le_refl _), Nat.sub_self] at h1
      rw [← S.len, List.getElem?_append_right (Nat.le_refl _), Nat.sub_self] at h2
      have e1 : o = o' := by simpa using h1
      have e2 : p = q := by simpa using h2
      subst e1 e2
      exact h e
  · obtain ⟨t, ht⟩ := e0.pre
    exact ⟨t ++ [p], by rw [ht, List.append_assoc]⟩
  · rw [upd_ne (ne_of_none h hp0)]; exact e0.keep q u h n z
  · rcases List.mem_append.mp h with h | h
    · exact e0.new q h n
    · rw [List.mem_singleton.mp h]; exact hp0
  · by_cases hq : q = p
    · rw [hq, upd_same]; exact fun z => nomatch z
    · rw [upd_ne hq]; exact e0.dom q h
  · rw [upd_ne (ne_of_none h hp0)]; exact e0.frz q ob u hq h
end
end Pu
end

section
set_option Elab.async false
set_option linter.all false
set_option maxRecDepth 100000
set_option maxHeartbeats 4000000
namespace Pu
open PySem PySem.Spec L2
variable [tb : Tb]

/-! the weakest readings -/
section
variable (X : Cx)
def Wp (e : Expr) : TE := fun σ H Q => ∀ pins s, Inv X pins σ H s → wpAny (model X.prog X.w) X.A (eval e X.env) (EP X pins σ Q) X.xe s
def WpT (e : Expr) : TT := fun σ H Q => ∀ pins s, Inv X pins σ H s → wpAny (model X.prog X.w) X.A (isTrue e X.env (eval e X.env)) (TP X pins σ Q) X.xe s
def WpW (e : Expr) : TT := fun σ H Q => ∀ whole pins s, Inv X pins σ H s → wpAny (model X.prog X.w) X.A (isTrue e X.env whole) (TP X pins σ Q) X.xe s
def WpA (es : List Expr) : TA := fun σ H Q => ∀ pos pins s, Inv X pins σ H s → wpAny (model X.prog X.w) X.A (spliced (backTo pos (starEach es X.env))) (AP X pins σ Q) X.xe s
def WpS (st : Stmt) : TS := fun D σ H => ∀ pins s, Inv X pins σ H s → wpAny (model X.prog X.w) X.A (exec st X.env) (SP X pins D) X.xe s
def WpB (st : List Stmt) : TS := fun D σ H => ∀ pins s, Inv X pins σ H s → wpAny (model X.prog X.w) X.A (execs st X.env) (SP X pins D) X.xe s
variable {X} {e : Expr} {es : List Expr} {st : Stmt} {b : List Stmt}
theorem pe_wp : PE X e (Wp X e) := ⟨fun pins s _ _ _ I h => h pins s I⟩
theorem pt_wp : PT X e (WpT X e) := ⟨fun pins s _ _ _ I h => h pins s I⟩
theorem pw_wp : PW X e (WpW X e) := ⟨fun wh pins s _ _ _ I h => h wh pins s I⟩
theorem pa_wp : PA X es (WpA X es) := ⟨fun pos pins s _ _ _ I h => h pos pins s I⟩
theorem ps_wp : PS X st (WpS X st) := ⟨fun pins s _ _ _ I h => h pins s I⟩
theorem pb_wp : PSs X b (WpB X b) := ⟨fun pins s _ _ _ I h => h pins s I⟩
theorem wp_pe {t : TE} {σ : L2.St} {H : Hp} {Q : VK} (h : PE X e t) (q : t σ H Q) : Wp X e σ H Q := fun pins s I => h.run pins s σ H Q I q
theorem wp_pt {t : TT} {σ : L2.St} {H : Hp} {Q : Bool → Hp → Prop} (h : PT X e t) (q : t σ H Q) : WpT X e σ H Q := fun pins s I => h.run pins s σ H Q I q
theorem wp_pw {t : TT} {σ : L2.St} {H : Hp} {Q : Bool → Hp → Prop} (h : PW X e t) (q : t σ H Q) : WpW X e σ H Q := fun wh pins s I => h.run wh pins s σ H Q I q
theorem wp_pa {t : TA} {σ : L2.St} {H : Hp} {Q : List V → Hp → Prop} (h : PA X es t) (q : t σ H Q) : WpA X es σ H Q := fun pos pins s I => h.run pos pins s σ H Q I q
theorem wp_ps {t : TS} {D : Ends} {σ : L2.St} {H : Hp} (h : PS X st t) (q : t D σ H) : WpS X st D σ H := fun pins s I => h.run pins s σ H D I q
theorem wp_pb {t : TS} {D : Ends} {σ : L2.St} {H : Hp} (h : PSs X b t) (q : t D σ H) : WpB X b D σ H := fun pins s I => h.run pins s σ H D I q
theorem WpW.t {σ : L2.St} {H : Hp} {Q : Bool → Hp → Prop} (h : WpW X e σ H Q) : WpT X e σ H Q := fun pins s I => h _ pins s I
/-- a wish weakened, another abstract heap read into the same state -/
theorem Wp.post {σ : L2.St} {H : Hp} {Q Q' : VK} (h : Wp X e σ H Q) (k : ∀ v H1, Q v H1 → ∃ H2, (∀ pins s, Inv X pins σ H1 s → Inv X pins σ H2 s) ∧ Q' v H2) : Wp X e σ H Q' := fun pins s I =>
  thn (h pins s I) fun u s' ⟨v, H1, I1, r, q⟩ => by
    obtain ⟨H2, k1, k2⟩ := k v H1 q
    exact ⟨v, H2, k1 pins s' I1, r, k2⟩
end

/-! what an expression comes to -/
def ExF (nm : List Str) (K : PySem.W.Frag) (mg : Str → Option Value) (as : List Addr) (H : Hp) (e : Ex) (cls : Value) (d : Option Addr) : Prop :=
  ∃ x C, nm[e.cls]? = some x ∧ mg x = some (.ref C) ∧ cls = .ref C ∧ e.cls ∈ tb.xc ∧ ((e.fs = [] ∧ d = none) ∨ ∃ dx us, d = some dx ∧ H dx = some (.xd us) ∧ FRep nm K as H e.fs us)
/-- an exception's object, as it stands -/
def EO (a : Addr) (oe : Obj) : HO := .ext fun h => h.get? a = some oe
def SVRep (nm : List Str) (K : PySem.W.Frag) (mg : Str → Option Value) (as : List Addr) (H : Hp) : SV → V → Prop
  | .d x, v => Rep K as H x v
  | .x e, v => ∃ a oe cls d, v = .ref a ∧ H a = some (EO a oe) ∧ Zc cls d oe ∧ (∃ vs, oe.data = .fields vs) ∧ ExF nm K mg as H e cls d
def SVReps (nm : List Str) (K : PySem.W.Frag) (mg : Str → Option Value) (as : List Addr) (H : Hp) : List SV → List V → Prop
  | [], us => us = []
  | d :: ds, us => ∃ u r, us = u :: r ∧ SVRep nm K mg as H d u ∧ SVReps nm K mg as H ds r
def SRep (X : Cx) (nm : List Str) (as : List Addr) (H : Hp) : SV → V → Prop
  | .d x, v => Rep X.K as H x v
  | .x e, v => ∃ a oe cls d, v = .ref a ∧ ((a, oe) ∈ X.pn ∨ H a = some (EO a oe)) ∧ Zc cls d oe ∧ (∃ vs, oe.data = .fields vs) ∧ ExF nm X.K X.mg as H e cls d
structure Sat (X : Cx) (nm : List Str) (as : List Addr) (sl : Slots) (st : Store) (σ : L2.St) (H : Hp) : Prop where
  st : StOk nm X.K X.mg as st H
  len : sl.length = σ.length
  slo : ∀ (i : Nat) (x : SV), sl[i]? = some (some x) → ∃ v, σ[i]? = some (some v) ∧ SRep X nm as H x v
abbrev RpT (α : Type) (β : Type) : Type := List Addr → Hp → α → β → Prop
def Post {α β : Type} (X : Cx) (nm : List Str) (W : WX) (Rp : RpT α β) (σ : L2.St) (as : List Addr) (H : Hp) (m : R α) (Q : β → Hp → Prop) : Prop := match m with
  | .ok a st => ∀ as' H' v, Ev as H as' H' → StOk nm X.K X.mg as' st H' → Rp as' H' a v → Q v H'
  | .ex e st => ∀ as' H' cls d, Ev as H as' H' → StOk nm X.K X.mg as' st H' → ExF nm X.K X.mg as' H' e cls d → W cls d σ H'
  | .bad => False
abbrev RpE (X : Cx) : RpT D V := fun as H d v => Rep X.K as H d v
abbrev RpA (X : Cx) : RpT (List D) (List V) := fun as H d v => Reps X.K as H d v
abbrev RpB : RpT Bool Bool := fun _ _ a b => b = a
section
variable {X : Cx} {nm : List Str} {W : WX} {σ : L2.St} {as as' as1 : List Addr} {H H' H1 : Hp} {sl : Slots} {st : Store} {α β γ δ : Type}
theorem ExF.ev (w : Owns as H) (e : Ev as H as' H') {x : Ex} {cls : Value} {d : Option Addr} (h : ExF nm X.K X.mg as H x cls d) : ExF nm X.K X.mg as' H' x cls d := by
  obtain ⟨y, C, h1, h2, h3, h0, h4⟩ := h
  refine ⟨y, C, h1, h2, h3, h0, ?_⟩
  rcases h4 with h4 | ⟨dx, us, h5, h6, h7⟩
  · exact .inl h4
  · exact .inr ⟨dx, us, h5, e.keep _ _ h6 (w.no h6 fun z => z) trivial, h7.ev w e⟩
theorem SRep.ev (w : Owns as H) (e : Ev as H as' H') {x : SV} {v : V} (h : SRep X nm as H x v) : SRep X nm as' H' x v := by
  cases x with
  | d x => exact Rep.ev w e x v h
  | x ex =>
    obtain ⟨a, oe, cls, d, h1, h2, h3, h4, h5⟩ := h
    exact ⟨a, oe, cls, d, h1, h2.imp_right fun z => e.keep _ _ z (w.no z fun q => q) trivial, h3, h4, h5.ev w e⟩
theorem SVReps.of : ∀ {xs : List D} {vs : List V}, Reps X.K as H xs vs → SVReps nm X.K X.mg as H (xs.map SV.d) vs
  | [], vs, h => h
  | x :: xs, vs, h => by
    obtain ⟨u, r, e, h1, h2⟩ := h.inv
    exact ⟨u, r, e, h1, SVReps.of h2⟩
theorem SVReps.length : ∀ {ds : List SV} {us : List V}, SVReps nm X.K X.mg as H ds us → us.length = ds.length
  | [], _, h => by
    have e := (show _ = [] from h)
    rw [e]; rfl
  | d :: ds, us, h => by
    obtain ⟨u, r, e, _, h2⟩ := (show ∃ u r, us = u :: r ∧ SVRep nm X.K X.mg as H d u ∧ SVReps nm X.K X.mg as H ds r from h)
    rw [e, List.length_cons, List.length_cons, SVReps.length h2]
theorem SVReps.app : ∀ {ds es : List SV} {us ws : List V}, SVReps nm X.K X.mg as H ds us → SVReps nm X.K X.mg as H es ws → SVReps nm X.K X.mg as H (ds ++ es) (us ++ ws)
  | [], _, us, _, h, h' => by
    have e := (show us = [] from h)
    subst e
    exact h'
  | d0 :: ds, es, us, ws, h, h' => by
    obtain ⟨u, r, e1, h1, h2⟩ := (show ∃ u r, us = u :: r ∧ SVRep nm X.K X.mg as H d0 u ∧ SVReps nm X.K X.mg as H ds r from h)
    subst e1
    exact ⟨u, r ++ ws, rfl, h1, SVReps.app h2 h'⟩
theorem Sat.ev (S : Sat X nm as sl st σ H) (e : Ev as H as' H') {st' : Store} (h : StOk nm X.K X.mg as' st' H') : Sat X nm as' sl st' σ H' :=
  ⟨h, S.len, fun i x hx => by
    obtain ⟨v, h1, h2⟩ := S.slo i x hx
    exact ⟨v, h1, h2.ev S.st.owns e⟩⟩
theorem Sat.set (S : Sat X nm as sl st σ H) (i : Nat) {x : SV} {v : V} (h : SRep X nm as H x v) : Sat X nm as (sl.set i (some x)) st (σ.set i (some v)) H :=
  ⟨S.st, by simp [S.len], fun j y hy => by
    by_cases hj : i = j
    · subst hj
      have hi : i < sl.length := by
        have := (List.getElem?_eq_some_iff.mp hy).1
        simpa using this
      rw [List.getElem?_set_self hi] at hy
      cases hy
      exact ⟨v, List.getElem?_set_self (by rw [← S.len]; exact hi), h⟩
    · rw [List.getElem?_set_ne hj] at hy
      obtain ⟨u, h1, h2⟩ := S.slo j y hy
      exact ⟨u, by rw [List.getElem?_set_ne hj]; exact h1, h2⟩⟩
theorem Sat.unset (S : Sat X nm as sl st σ H) (i : Nat) {v : Option V} : Sat X nm as (sl.set i none) st (σ.set i v) H :=
  ⟨S.st, by simp [S.len], fun j y hy => by
    by_cases hj : i = j
    · subst hj
      have hi : i < sl.length := by
        have := (List.getElem?_eq_some_iff.mp hy).1
        simpa using this
      rw [List.getElem?_set_self hi] at hy
      cases hy
    · rw [List.getElem?_set_ne hj] at hy
      obtain ⟨u, h1, h2⟩ := S.slo j y hy
      exact ⟨u, by rw [List.getElem?_set_ne hj]; exact h1, h2⟩⟩
theorem Post.ev {Rp : RpT α β} {m : R α} {Q : β → Hp → Prop} (h : Post X nm W Rp σ as H m Q) (e : Ev as H as' H') : Post X nm W Rp σ as' H' m Q := by
  cases m with
  | ok a s => exact fun as2 H2 v e2 S r => h as2 H2 v (e.trans e2) S r
  | ex x s => exact fun as2 H2 cls d e2 S r => h as2 H2 cls d (e.trans e2) S r
  | bad => exact h
/-- the first part: what is wanted behind it is what the rest wants -/
theorem Post.seq {Rp : RpT α β} {Rp2 : RpT γ δ} {m : R α} {k : α → Store → R γ} {Q : δ → Hp → Prop} {Q2 : β → Hp → Prop} (h : Post X nm W Rp2 σ as H (m.bind k) Q)
    (f : ∀ a s as1 H1 v, Ev as H as1 H1 → StOk nm X.K X.mg as1 s H1 → Rp as1 H1 a v → Post X nm W Rp2 σ as1 H1 (k a s) Q → Q2 v H1) : Post X nm W Rp σ as H m Q2 := by
  cases m with
  | ok a s => exact fun as1 H1 v e S r => f a s as1 H1 v e S r (Post.ev (m := k a s) h e)
  | ex x s => exact h
  | bad => exact h
theorem Post.map {Rp : RpT α β} {Rp2 : RpT γ δ} {m : R α} {g : α → γ} {Q : δ → Hp → Prop} {Q2 : β → Hp → Prop} (h : Post X nm W Rp2 σ as H (m.bind fun a s => .ok (g a) s) Q)
    (f : ∀ a as1 H1 v, Rp as1 H1 a v → ∀ u, Rp2 as1 H1 (g a) u → True) : True := trivial
theorem Post.val {Rp : RpT α β} {a : α} {Q : β → Hp → Prop} {v : β} (h : Post X nm W Rp σ as H (.ok a st) Q) (S : StOk nm X.K X.mg as st H) (r : Rp as H a v) : Q v H := h as H v (Ev.refl _ _) S r
theorem Post.valE {Rp : RpT α β} {a : α} {Q : β → Hp → Prop} {v : β} (h : Post X nm W Rp σ as H (.ok a st) Q) (e : Ev as H as' H') (S : StOk nm X.K X.mg as' st H') (r : Rp as' H' a v) : Q v H' := h as' H' v e S r
end
end Pu
end

section
set_option Elab.async false
set_option linter.all false
set_option maxRecDepth 100000
set_option maxHeartbeats 4000000
namespace Pu
open PySem PySem.Spec L2
variable [tb : Tb]

theorem lim_le {n : Nat} (h : n ≤ lim) : n ≤ sizeLine := Nat.le_trans h (by decide)
theorem lim_lt {n : Nat} (h : n ≤ lim) : n < sizeLine := Nat.lt_of_le_of_lt h (by decide)
theorem sOf_len (s : Txt) : (sOf s).length = s.length := by simp [sOf, Str.length]
theorem sOf_cps (s : Txt) : (sOf s).cps.toList = s := by simp [sOf]
theorem sOf_inj {a b : Txt} (h : sOf a = sOf b) : a = b := by
  have := congrArg (fun z : Str => z.cps.toList) h
  simpa [sOf] using this
theorem sOf_app (a b : Txt) : sOf a ++ sOf b = sOf (a ++ b) := by
  show (⟨a.toArray ++ b.toArray⟩ : Str) = ⟨(a ++ b).toArray⟩
  simp
theorem okS_app {a b : Txt} (h : okS a = true) (h2 : okS b = true) : okS (a ++ b) = true := by
  unfold okS at *
  rw [List.all_append, h, h2]; rfl
theorem ixN_eq (n : Nat) (i : Int) : L2.ixN n i = ixN n i := by
  unfold L2.ixN ixN
  by_cases h : i < 0
  · rw [if_pos h, if_neg (by omega)]
  · rw [if_neg h, if_pos (by omega)]
theorem slIx_eq (n d : Nat) (o : Option Int) : HT.sIx n d o = slIx n d o := by
  cases o <;> rfl

/-! the weakest readings of operations -/
section
variable (X : Cx)
def WOp (f : Value → Value → Sem Value) : R2 := fun x y H Q => ∀ pins s σ v u, Inv X pins σ H s → RelV x v → RelV y u → wpAny (model X.prog X.w) X.A (f v u) (EP X pins σ Q) X.xe s
def WCl (f : Value) : List V → Hp → VK → Prop := fun xs H Q => ∀ pins s σ us, Inv X pins σ H s → Vals xs us → wpAny (model X.prog X.w) X.A (call f us) (EP X pins σ Q) X.xe s
def WMt (id : String) : V → List V → Hp → VK → Prop := fun x xs H Q => ∀ pins s σ v us, Inv X pins σ H s → RelV x v → Vals xs us → wpAny (model X.prog X.w) X.A (call (.builtin id) (v :: us)) (EP X pins σ Q) X.xe s
variable {X}
theorem wop_r {f : Value → Value → Sem Value} : OpR X f (WOp X f) := fun pins s σ _ _ _ v u _ I r1 r2 h => h pins s σ v u I r1 r2
theorem wcl_r {f : Value} : CallR X f (WCl X f) := fun pins s σ _ _ us _ I r h => h pins s σ us I r
theorem wop_of {f : Value → Value → Sem Value} {r : R2} (o : OpR X f r) {x y : V} {H : Hp} {Q : VK} (h : r x y H Q) : WOp X f x y H Q := fun pins s σ v u I r1 r2 => o pins s σ H x y v u Q I r1 r2 h
theorem wcl_of {f : Value} {r : List V → Hp → VK → Prop} (o : CallR X f r) {xs : List V} {H : Hp} {Q : VK} (h : r xs H Q) : WCl X f xs H Q := fun pins s σ us I r1 => o pins s σ H xs us Q I r1 h
end

/-! data -/
mutual
def toPy : T → PyData
  | .non => .none
  | .bl b => .bool b
  | .int i => .int i
  | .str s => .str (sOf s)
  | .lst xs => .list (toPys xs)
  | .tup xs => .tuple (toPys xs)
def toPys : List T → List PyData
  | [] => []
  | x :: xs => toPy x :: toPys xs
end
theorem str_beq (x y : Txt) : (sOf x == sOf y) = (x == y) := by
  by_cases h : x = y
  · subst h; simp
  · have : ¬ sOf x = sOf y := fun e => h (sOf_inj e)
    rw [beq_eq_false_iff_ne.mpr h, beq_eq_false_iff_ne.mpr this]
mutual
theorem eqv_py : ∀ a b : T, PyData.eqv (toPy a) (toPy b) = T.eqv a b
  | .non, b => by cases b <;> simp [toPy, PyData.eqv, T.eqv]
  | .bl x, b => by cases b <;> simp [toPy, PyData.eqv, T.eqv]
  | .int x, b => by cases b <;> simp [toPy, PyData.eqv, T.eqv]
  | .str x, b => by cases b <;> simp [toPy, PyData.eqv, T.eqv, str_beq]
  | .lst x, b => by
    cases b with
    | lst y => simp [toPy, PyData.eqv, T.eqv, eqvs_py x y]
    | _ => simp [toPy, PyData.eqv, T.eqv]
  | .tup x, b => by
    cases b with
    | tup y => simp [toPy, PyData.eqv, T.eqv, eqvs_py x y]
    | _ => simp [toPy, PyData.eqv, T.eqv]
theorem eqvs_py : ∀ a b : List T, PyData.eqvAll (toPys a) (toPys b) = T.eqvs a b
  | [], b => by cases b <;> simp [toPys, PyData.eqvAll, T.eqvs]
  | x :: xs, b => by
    cases b with
    | nil => simp [toPys, PyData.eqvAll, T.eqvs]
    | cons y ys => simp [toPys, PyData.eqvAll, T.eqvs, eqv_py x y, eqvs_py xs ys]
end
theorem any_py (t : T) : ∀ ys : List T, ((toPys ys).any fun z => PyData.eqv z (toPy t)) = ys.any fun y => T.eqv y t
  | [] => rfl
  | y :: ys => by rw [toPys, List.any_cons, List.any_cons, eqv_py, any_py t ys]
section
variable {X : Cx} {nm : List Str} {W : WX} {σ : L2.St} {as as' as1 : List Addr} {H H' H1 : Hp} {sl : Slots} {st : Store}
theorem strOk_of {s : Txt} (h : okS s = true) : PyData.strOk (sOf s) = true := by
  unfold PyData.strOk sOf
  unfold okS at h
  simpa using h
theorem mapM_cons {α β : Type} (f : α → Option β) (x : α) (xs : List α) : (x :: xs).mapM f = (f x).bind fun y => (xs.mapM f).map fun ys => y :: ys := by
  rw [List.mapM_cons]
  cases f x with
  | none => rfl
  | some y => cases xs.mapM f <;> rfl
/-- a value's data, as they lie -/
theorem dp_tree (S : StOk nm X.K X.mg as st H) : ∀ (n : Nat) (d : D) (v : V) (t : T), tree n st d = some t → Rep X.K as H d v → Dp X.K H v (toPy t) ∧ (toPy t).canLay0 = true ∧ (toPy t).depth ≤ n
  | 0, d, v, t, h, r => by cases h
  | n + 1, d, v, t, h, r => by
    have all : ∀ (xs : List D) (us : List V) (ts : List T), xs.mapM (tree n st) = some ts → Reps X.K as H xs us → DpAll X.K H us (toPys ts) ∧ PyData.canLayAll0 (toPys ts) = true ∧ PyData.depthAll (toPys ts) ≤ n := by
      intro xs
      induction xs with
      | nil =>
        intro us ts h r
        have e := r.nil_inv
        subst e
        have e : ts = [] := by simpa using h.symm
        subst e
        exact ⟨.nil, by simp [toPys, PyData.canLayAll0], by simp [toPys, PyData.depthAll]⟩
      | cons x xs ih =>
        intro us ts h r
        obtain ⟨u, w, e, r1, r2⟩ := r.inv
        subst e
        rw [mapM_cons] at h
        cases q : tree n st x with
        | none => rw [q] at h; cases h
        | some t =>
          rw [q] at h
          cases q2 : xs.mapM (tree n st) with
          | none => rw [q2] at h; cases h
          | some ts2 =>
            rw [q2] at h
            cases h
            obtain ⟨a1, a2, a3⟩ := dp_tree S n x u t q r1
            obtain ⟨b1, b2, b3⟩ := ih w ts2 q2 r2
            exact ⟨.cons a1 b1, by simp [toPys, PyData.canLayAll0, a2, b2], by simp only [toPys, PyData.depthAll]; omega⟩
    cases d with
    | non => cases h; cases r; exact ⟨.non, rfl, Nat.zero_le _⟩
    | bl b => cases h; cases r; exact ⟨.bl b, rfl, Nat.zero_le _⟩
    | int b => cases h; cases r; exact ⟨.int b, rfl, Nat.zero_le _⟩
    | str b =>
      cases h
      obtain ⟨e, ok⟩ := (show v = .str (sOf b) ∧ okS b = true from r)
      subst e
      exact ⟨.str _, strOk_of ok, Nat.zero_le _⟩
    | scr b => cases h
    | tup xs =>
      obtain ⟨p, us, e, hp, r1⟩ := (show ∃ p us, v = .ref p ∧ H p = some (.tup us) ∧ Reps X.K as H xs us from r)
      subst e
      have h : (xs.mapM (tree n st)).map T.tup = some t := h
      cases q : xs.mapM (tree n st) with
      | none => rw [q] at h; cases h
      | some ts =>
        rw [q] at h
        cases h
        obtain ⟨a1, a2, a3⟩ := all xs us ts q r1
        exact ⟨by rw [toPy]; exact .tup (.inl (.inl hp)) a1, by rw [toPy]; simpa [PyData.canLay0] using a2, by rw [toPy]; simp only [PyData.depth]; omega⟩
    | ptr i =>
      obtain ⟨p, hp, e⟩ := (show ∃ p, as[i]? = some p ∧ v = .ref p from r)
      subst e
      have h : (match st[i]? with
        | some (.lst xs) => (xs.mapM (tree n st)).map T.lst
        | _ => none) = some t := h
      cases q0 : st[i]? with
      | none => rw [q0] at h; cases h
      | some o =>
        rw [q0] at h
        cases o with
        | lst xs =>
          obtain ⟨us, h1, r1⟩ := (show ∃ us, H p = some (.lst us) ∧ Reps X.K as H xs us from S.at_ i _ p q0 hp)
          have h : (xs.mapM (tree n st)).map T.lst = some t := h
          cases q : xs.mapM (tree n st) with
          | none => rw [q] at h; cases h
          | some ts =>
            rw [q] at h
            cases h
            obtain ⟨a1, a2, a3⟩ := all xs us ts q r1
            exact ⟨by rw [toPy]; exact .lst (.inl (.inl h1)) a1, by rw [toPy]; simpa [PyData.canLay0] using a2, by rw [toPy]; simp only [PyData.depth]; omega⟩
        | _ => cases h
theorem shaped_tree (S : StOk nm X.K X.mg as st H) {d : D} {v : V} {t : T} (h : tree deep st d = some t) (r : Rep X.K as H d v) : Dp X.K H v (toPy t) ∧ SeqAt.shaped (toPy t) = true := by
  obtain ⟨a, b, c⟩ := dp_tree S deep d v t h r
  refine ⟨a, ?_⟩
  unfold SeqAt.shaped
  rw [b, Bool.true_and]
  exact decide_eq_true (Nat.le_trans c (by decide))
/-- a list as it lies -/
theorem lst_at (S : StOk nm X.K X.mg as st H) {d : D} {v : V} {xs : List D} (h : lstAt st d = some xs) (r : Rep X.K as H d v) : ∃ i p us, d = .ptr i ∧ v = .ref p ∧ st[i]? = some (.lst xs) ∧ as[i]? = some p ∧ H p = some (.lst us) ∧ Reps X.K as H xs us := by
  unfold lstAt obj at h
  cases d with
  | ptr i =>
    obtain ⟨p, hp, e⟩ := (show ∃ p, as[i]? = some p ∧ v = .ref p from r)
    cases q0 : st[i]? with
    | none => simp [q0] at h
    | some o =>
      cases o with
      | lst ys =>
        simp [q0] at h
        subst h
        obtain ⟨us, h1, r1⟩ := (show ∃ us, H p = some (.lst us) ∧ Reps X.K as H ys us from S.at_ i _ p q0 hp)
        exact ⟨i, p, us, rfl, e, q0, hp, h1, r1⟩
      | _ => simp [q0] at h
  | _ => cases h
theorem reps_int : ∀ (ns : List Int), Reps X.K as H (ns.map D.int) (ns.map V.int)
  | [] => rfl
  | n :: ns => ⟨_, _, rfl, rfl, reps_int ns⟩
/-- a list or a tuple as it lies -/
theorem seq_at (S : StOk nm X.K X.mg as st H) {d : D} {v : V} {xs : List D} (h : seqAt st d = some xs) (r : Rep X.K as H d v) : ∃ p us, v = .ref p ∧ (SqL X.K H p us ∨ SqT X.K H p us) ∧ Reps X.K as H xs us := by
  cases d with
  | tup ys =>
    cases h
    obtain ⟨p, us, e, hp, r1⟩ := (show ∃ p us, v = .ref p ∧ H p = some (.tup us) ∧ Reps X.K as H _ us from r)
    exact ⟨p, us, e, .inr (.inl (.inl hp)), r1⟩
  | scr ns =>
    cases h
    obtain ⟨p, e, hp⟩ := (show ∃ p, v = .ref p ∧ SRl X.K H p (ns.map V.int) from r)
    exact ⟨p, _, e, .inl hp.sq, reps_int ns⟩
  | ptr i =>
    obtain ⟨_, p, us, _, e, _, _, h1, r1⟩ := lst_at S (d := .ptr i) h r
    exact ⟨p, us, e, .inl (.inl (.inl h1)), r1⟩
  | _ => cases h
theorem ins_at (S : StOk nm X.K X.mg as st H) {d : D} {v : V} {c : Nat} {fs : List (Nat × D)} (h : obj st d = some (.ins c fs)) (r : Rep X.K as H d v) :
    ∃ i p x C dx fs', d = .ptr i ∧ v = .ref p ∧ st[i]? = some (.ins c fs) ∧ as[i]? = some p ∧ nm[c]? = some x ∧ X.mg x = some (.ref C) ∧ Cls X.K C ∧ (∀ q ∈ fs, ∀ y, nm[q.1]? = some y → NoAttr X.K C y) ∧ H p = some (.ins C dx fs') ∧ FRep nm X.K as H fs fs' := by
  unfold obj at h
  cases d with
  | ptr i =>
    obtain ⟨p, hp, e⟩ := (show ∃ p, as[i]? = some p ∧ v = .ref p from r)
    obtain ⟨x, C, dx, fs', h0, h1, k1, k2, h2, h3⟩ := (show ∃ x C dx fs', nm[c]? = some x ∧ X.mg x = some (.ref C) ∧ Cls X.K C ∧ (∀ q ∈ fs, ∀ y, nm[q.1]? = some y → NoAttr X.K C y) ∧ H p = some (.ins C dx fs') ∧ FRep nm X.K as H fs fs' from S.at_ i _ p h hp)
    exact ⟨i, p, x, C, dx, fs', rfl, e, h, hp, h0, h1, k1, k2, h2, h3⟩
  | _ => cases h
end

/-! operators -/
section
variable {X : Cx} {nm : List Str} {W : WX} {σ : L2.St} {as : List Addr} {H : Hp} {st : Store} {Q : VK}
theorem post_new (S : StOk nm X.K X.mg as st H) {o : O} {x : HO} (hP : Post X nm W (RpE X) σ as H (new o st) Q) {p : Addr} (hp : H p = none) (ho : Own x) (h : Ev as H (as ++ [p]) (upd H p x) → OAt nm X.K X.mg (as ++ [p]) (upd H p x) p o) : Q (.ref p) (upd H p x) := by
  obtain ⟨S', e⟩ := S.new hp ho h
  exact hP _ _ _ e S' ⟨p, by rw [← S.len, List.getElem?_append_right (Nat.le_refl _), Nat.sub_self]; rfl, rfl⟩
theorem post_lst (S : StOk nm X.K X.mg as st H) {xs : List D} {us : List V} (hP : Post X nm W (RpE X) σ as H (new (.lst xs) st) Q) (r : Reps X.K as H xs us) {p : Addr} (hp : H p = none) : Q (.ref p) (upd H p (.lst us)) :=
  post_new S hP hp trivial fun e => ⟨us, upd_same, Reps.ev S.owns e _ _ r⟩
theorem post_tup (S : StOk nm X.K X.mg as st H) {xs : List D} {us : List V} (hP : Post X nm W (RpE X) σ as H (.ok (.tup xs) st) Q) (r : Reps X.K as H xs us) {p : Addr} (hp : H p = none) : Q (.ref p) (upd H p (.tup us)) := by
  obtain ⟨S', e⟩ := S.laid (x := .tup us) hp
  exact hP _ _ _ e S' ⟨p, us, rfl, upd_same, Reps.ev S.owns e _ _ r⟩
def opB : Bop → Operator
  | .add => .Add | .sub => .Sub | .mul => .Mult | .fdv => .FloorDiv | .mod => .Mod | .band => .BitAnd | .bor => .BitOr | .shl => .LShift | .shr => .RShift
theorem reps_rep {xs : List D} {us : List V} (r : Reps X.K as H xs us) : ∀ n, Reps X.K as H (List.replicate n xs).flatten (List.replicate n us).flatten
  | 0 => rfl
  | n + 1 => by
    rw [List.replicate_succ, List.replicate_succ, List.flatten_cons, List.flatten_cons]
    exact r.app (reps_rep r n)
theorem bin_ok (S : StOk nm X.K X.mg as st H) (o : Bop) {x y : D} {u v : V} (r1 : Rep X.K as H x u) (r2 : Rep X.K as H y v) (hP : Post X nm W (RpE X) σ as H (binD o x y st) Q) : WOp X (binaryOp (opB o)) u v H Q := by
  have val : ∀ {i : Int} {w : V}, Post X nm W (RpE X) σ as H (.ok (.int i) st) Q → w = .int i → Q w H := fun h e => h.val S e
  cases o with
  | add =>
    replace hP : Post X nm W (RpE X) σ as H (addD x y st) Q := hP
    unfold addD at hP
    split at hP
    · cases r1; cases r2
      exact wop_of op_add ⟨_, _, rfl, rfl, val hP rfl⟩
    · rename_i a b
      split at hP
      · rename_i hl
        obtain ⟨e1, k1⟩ := (show u = .str (sOf a) ∧ okS a = true from r1)
        obtain ⟨e2, k2⟩ := (show v = .str (sOf b) ∧ okS b = true from r2)
        subst e1 e2
        exact wop_of op_add_str ⟨_, _, rfl, rfl, by rw [sOf_len, sOf_len]; exact lim_le hl, hP.val S ⟨by rw [sOf_app], okS_app k1 k2⟩⟩
      · exact hP.elim
    · rename_i a b
      split at hP
      · rename_i hl
        obtain ⟨p, us, e1, h1, q1⟩ := (show ∃ p us, u = .ref p ∧ H p = some (.tup us) ∧ Reps X.K as H a us from r1)
        obtain ⟨p2, us2, e2, h2, q2⟩ := (show ∃ p us, v = .ref p ∧ H p = some (.tup us) ∧ Reps X.K as H b us from r2)
        have l1 := q1.length
        have l2 := q2.length
        subst e1 e2
        refine wop_of op_catA ⟨p, p2, us, us2, rfl, rfl, .inl (.inl h1), .inl (.inl h2), by rw [l1, l2]; exact lim_le hl, fun e => ?_, fun n1 e => ?_, fun n1 n2 q hq => ?_⟩
        · subst e
          have e : a = [] := by
            have : a.length = 0 := l1.symm
            exact List.length_eq_zero_iff.mp this
          subst e
          exact hP.val S ⟨p2, us2, rfl, h2, q2⟩
        · subst e
          have e : b = [] := by
            have : b.length = 0 := l2.symm
            exact List.length_eq_zero_iff.mp this
          subst e
          rw [List.append_nil] at hP
          exact hP.val S ⟨p, us, rfl, h1, q1⟩
        · exact post_tup S hP (q1.app q2) hq
      · exact hP.elim
    · split at hP
      · rename_i xs ys hx hy
        split at hP
        · rename_i hl
          obtain ⟨i, p, us, _, e1, _, _, h1, q1⟩ := lst_at S hx r1
          obtain ⟨j, p2, us2, _, e2, _, _, h2, q2⟩ := lst_at S hy r2
          subst e1 e2
          exact wop_of op_cat ⟨p, p2, us, us2, rfl, rfl, h1, h2, by rw [q1.length, q2.length]; exact lim_le hl, fun q hq => post_lst S hP (q1.app q2) hq⟩
        · exact hP.elim
      · exact hP.elim
  | sub =>
    replace hP : Post X nm W (RpE X) σ as H (sbtD x y st) Q := hP
    unfold sbtD at hP
    split at hP
    · cases r1; cases r2
      exact wop_of op_sub ⟨_, _, rfl, rfl, val hP rfl⟩
    · exact hP.elim
  | mul =>
    replace hP : Post X nm W (RpE X) σ as H (mulD x y st) Q := hP
    unfold mulD at hP
    split at hP
    · split at hP
      · rename_i hc
        cases r1; cases r2
        exact wop_of op_mul ⟨_, _, rfl, rfl, hc, val hP rfl⟩
      · exact hP.elim
    · split at hP
      · rename_i xs hx
        split at hP
        · rename_i hl
          obtain ⟨i, p, us, _, e1, _, _, h1, q1⟩ := lst_at S hx r1
          cases r2
          subst e1
          have hl1 := hl.1
          have hl2 := hl.2.1
          have e5 : (lim : Int) = 100000 := rfl
          exact wop_of op_rep ⟨p, _, us, rfl, rfl, h1, by omega, by omega, by rw [q1.length]; exact lim_le hl.2.2, fun q hq => post_lst S hP (reps_rep q1 _) hq⟩
        · exact hP.elim
      · exact hP.elim
    · exact hP.elim
  | fdv =>
    replace hP : Post X nm W (RpE X) σ as H (fdvD x y st) Q := hP
    unfold fdvD at hP
    split at hP
    · split at hP
      · rename_i hc
        cases r1; cases r2
        exact wop_of op_fdivN ⟨_, _, rfl, rfl, hc, val hP rfl⟩
      · exact hP.elim
    · exact hP.elim
  | mod =>
    replace hP : Post X nm W (RpE X) σ as H (modD x y st) Q := hP
    unfold modD at hP
    split at hP
    · split at hP
      · rename_i hc
        cases r1; cases r2
        exact wop_of op_modN ⟨_, _, rfl, rfl, hc, val hP rfl⟩
      · exact hP.elim
    · exact hP.elim
  | band =>
    replace hP : Post X nm W (RpE X) σ as H (bandD x y st) Q := hP
    unfold bandD at hP
    split at hP
    · cases r1; cases r2
      exact wop_of op_and ⟨_, _, rfl, rfl, val hP (congrArg V.int (PyProof.Rows.bitAnd_pp (Int.natCast_nonneg _) (Int.natCast_nonneg _)))⟩
    · exact hP.elim
  | bor =>
    replace hP : Post X nm W (RpE X) σ as H (borD x y st) Q := hP
    unfold borD at hP
    split at hP
    · cases r1; cases r2
      exact wop_of op_or ⟨_, _, rfl, rfl, val hP (congrArg V.int (Bits.bitOr_pp (Int.natCast_nonneg _) (Int.natCast_nonneg _)))⟩
    · exact hP.elim
  | shl =>
    replace hP : Post X nm W (RpE X) σ as H (shlD x y st) Q := hP
    unfold shlD at hP
    split at hP
    · split at hP
      · rename_i hc
        cases r1; cases r2
        exact wop_of op_shl ⟨_, _, rfl, rfl, hc, val hP rfl⟩
      · exact hP.elim
    · exact hP.elim
  | shr =>
    replace hP : Post X nm W (RpE X) σ as H (shrD x y st) Q := hP
    unfold shrD at hP
    split at hP
    · split at hP
      · rename_i hc
        cases r1; cases r2
        exact wop_of op_shr ⟨_, _, rfl, rfl, hc, val hP rfl⟩
      · exact hP.elim
    · exact hP.elim
end
end Pu
end

section
set_option Elab.async false
set_option linter.all false
set_option maxRecDepth 100000
set_option maxHeartbeats 4000000
namespace Pu
open PySem PySem.Spec L2
variable [tb : Tb]

section
variable {X : Cx} {nm : List Str} {W : WX} {σ : L2.St} {as : List Addr} {H : Hp} {st : Store} {Q : VK}
def opC : Cop → CmpOp
  | .eq => .Eq | .ne => .NotEq | .lt => .Lt | .le => .LtE | .gt => .Gt | .ge => .GtE | .is => .Is | .isn => .IsNot | .inn => .In | .nin => .NotIn
theorem rep_non {d : D} {v : V} (r : Rep X.K as H d v) : decide (v = .non) = decide (d = .non) := by
  cases d with
  | non => cases r; rfl
  | str s => obtain ⟨e, _⟩ := (show v = .str (sOf s) ∧ okS s = true from r); subst e; rfl
  | tup xs => obtain ⟨p, us, e, _⟩ := (show ∃ p us, v = .ref p ∧ H p = some (.tup us) ∧ Reps X.K as H xs us from r); subst e; rfl
  | ptr i => obtain ⟨p, _, e⟩ := (show ∃ p, as[i]? = some p ∧ v = .ref p from r); subst e; rfl
  | scr ns => obtain ⟨p, e, _⟩ := (show ∃ p, v = .ref p ∧ SRl X.K H p (ns.map V.int) from r); subst e; rfl
  | _ => cases r; rfl
/-- keys -/
theorem keyK_rep {d : D} {v : V} (h : flatK d = true) (r : Rep X.K as H d v) : ∃ k, keyK d = some k ∧ v = kV k := by
  cases d with
  | int i => cases r; exact ⟨.inl i, rfl, rfl⟩
  | str s => obtain ⟨e, ok⟩ := (show v = .str (sOf s) ∧ okS s = true from r); subst e; exact ⟨.inr (sOf s), by simp [keyK, ok], rfl⟩
  | _ => cases h
theorem keysK_rep : ∀ {ds : List D} {us : List V}, ds.all flatK = true → Reps X.K as H ds us → ∃ ks, keysK ds = some ks ∧ us = ks.map kV
  | [], us, _, r => ⟨[], rfl, r.nil_inv⟩
  | d :: ds, us, h, r => by
    obtain ⟨u, w, e, r1, r2⟩ := r.inv
    rw [List.all_cons, Bool.and_eq_true] at h
    obtain ⟨k, h1, h2⟩ := keyK_rep h.1 r1
    obtain ⟨ks, h3, h4⟩ := keysK_rep h.2 r2
    subst e h2 h4
    exact ⟨k :: ks, by simp [keysK, h1, h3], rfl⟩
theorem keyK_back {d : D} {k : Key} (h : keyK d = some k) : (∃ i, d = .int i ∧ k = .inl i) ∨ ∃ s, d = .str s ∧ k = .inr (sOf s) ∧ okS s = true := by
  cases d with
  | int i => cases h; exact .inl ⟨i, rfl, rfl⟩
  | str s =>
    replace h : (if okS s then some (Sum.inr (sOf s)) else none) = some k := h
    split at h
    · cases h; exact .inr ⟨s, rfl, rfl, by assumption⟩
    · cases h
  | _ => cases h
theorem keyK_inj {a b : D} {k : Key} (h : keyK a = some k) (h2 : keyK b = some k) : a = b := by
  rcases keyK_back h with ⟨i, e1, e2⟩ | ⟨s, e1, e2, _⟩
  · rcases keyK_back h2 with ⟨j, e3, e4⟩ | ⟨t, e3, e4, _⟩
    · rw [e2] at e4
      cases e4
      rw [e1, e3]
    · rw [e2] at e4; cases e4
  · rcases keyK_back h2 with ⟨j, e3, e4⟩ | ⟨t, e3, e4, _⟩
    · rw [e2] at e4; cases e4
    · rw [e2] at e4
      rw [e1, e3, sOf_inj (Sum.inr.inj e4)]
theorem keysK_inj : ∀ {a b : List D} {k : List Key}, keysK a = some k → keysK b = some k → a = b
  | [], b, k, h, h2 => by
    cases h
    cases b with
    | nil => rfl
    | cons y ys =>
      simp only [keysK] at h2
      cases q : keyK y <;> simp [q] at h2
  | x :: xs, b, k, h, h2 => by
    simp only [keysK] at h
    cases q : keyK x with
    | none => simp [q] at h
    | some kx =>
      cases q1 : keysK xs with
      | none => simp [q, q1] at h
      | some kxs =>
        simp [q, q1] at h
        subst h
        cases b with
        | nil => cases h2
        | cons y ys =>
          simp only [keysK] at h2
          cases q2 : keyK y with
          | none => simp [q2] at h2
          | some ky =>
            cases q3 : keysK ys with
            | none => simp [q2, q3] at h2
            | some kys =>
              simp [q2, q3] at h2
              obtain ⟨e1, e2⟩ := h2
              subst e1 e2
              rw [keyK_inj q q2, keysK_inj q1 q3]
theorem keyT_inj {a b : D} {k : List Key} (h : keyT a = some k) (h2 : keyT b = some k) : a = b := by
  cases a <;> simp [keyT] at h
  cases b <;> simp [keyT] at h2
  rw [keysK_inj h h2]
section
variable {κ : Type} [DecidableEq κ] {key : D → Option κ}
/-- looked up, in the one and the other -/
theorem dget_rep (inj : ∀ {a b : D} {k : κ}, key a = some k → key b = some k → a = b) : ∀ {kvs : List (D × D)} {l : List (κ × V)} {d : D} {k : κ}, DRepG key X.K as H kvs l → key d = some k →
    (match getD kvs d with
      | some x => ∃ v, valV l k = some v ∧ Rep X.K as H x v
      | none => valV l k = none)
  | [], l, d, k, r, h => by
    have e : l = [] := r
    subst e
    rfl
  | kv :: kvs, l, d, k, r, h => by
    obtain ⟨k0, v0, r0, e, h1, h2, h3⟩ := (show ∃ k v r, l = (k, v) :: r ∧ key kv.1 = some k ∧ Rep X.K as H kv.2 v ∧ DRepG key X.K as H kvs r from r)
    subst e
    by_cases hk : k0 = k
    · subst hk
      have e := inj h1 h
      have e2 : getD (kv :: kvs) d = some kv.2 := by simp [getD, List.find?_cons, e]
      rw [e2]
      exact ⟨v0, valV_pos rfl, h2⟩
    · have e : ¬ kv.1 = d := fun z => hk (by rw [z, h] at h1; exact (Option.some.inj h1).symm)
      have e2 : getD (kv :: kvs) d = getD kvs d := by simp [getD, List.find?_cons, e]
      rw [e2]
      have ih := dget_rep inj h3 h
      rw [valV_neg (p := (k0, v0)) hk]
      exact ih
theorem dany_rep (inj : ∀ {a b : D} {k : κ}, key a = some k → key b = some k → a = b) : ∀ {kvs : List (D × D)} {l : List (κ × V)} {d : D} {k : κ}, DRepG key X.K as H kvs l → key d = some k →
    (kvs.any fun kv => decide (kv.1 = d)) = (l.any fun kv => decide (kv.1 = k))
  | [], l, d, k, r, h => by
    have e : l = [] := r
    subst e
    rfl
  | kv :: kvs, l, d, k, r, h => by
    obtain ⟨k0, v0, r0, e, h1, h2, h3⟩ := (show ∃ k v r, l = (k, v) :: r ∧ key kv.1 = some k ∧ Rep X.K as H kv.2 v ∧ DRepG key X.K as H kvs r from r)
    subst e
    rw [List.any_cons, List.any_cons, dany_rep inj h3 h]
    congr 1
    by_cases hk : k0 = k
    · subst hk
      rw [decide_eq_true (inj h1 h), decide_eq_true rfl]
    · have e : ¬ kv.1 = d := fun z => hk (by rw [z, h] at h1; exact (Option.some.inj h1).symm)
      rw [decide_eq_false e, decide_eq_false hk]
theorem dput_rep (inj : ∀ {a b : D} {k : κ}, key a = some k → key b = some k → a = b) {kvs : List (D × D)} {l : List (κ × V)} {d x : D} {k : κ} {v : V} (r : DRepG key X.K as H kvs l) (h : key d = some k) (rv : Rep X.K as H x v) :
    DRepG key X.K as H (putD kvs d x) (putK l k v) := by
  have map : ∀ {kvs : List (D × D)} {l : List (κ × V)}, DRepG key X.K as H kvs l → DRepG key X.K as H (kvs.map fun kv => if kv.1 = d then (d, x) else kv) (l.map fun kv => if kv.1 = k then (kv.1, v) else kv) := by
    intro kvs
    induction kvs with
    | nil => intro l r; have e : l = [] := r; subst e; exact rfl
    | cons kv kvs ih =>
      intro l r
      obtain ⟨k0, v0, r0, e, h1, h2, h3⟩ := (show ∃ k v r, l = (k, v) :: r ∧ key kv.1 = some k ∧ Rep X.K as H kv.2 v ∧ DRepG key X.K as H kvs r from r)
      subst e
      rw [List.map_cons, List.map_cons]
      by_cases hk : k0 = k
      · subst hk
        have e := inj h1 h
        rw [if_pos e, if_pos rfl]
        exact ⟨k0, v, _, rfl, h, rv, ih h3⟩
      · have e : ¬ kv.1 = d := fun z => hk (by rw [z, h] at h1; exact (Option.some.inj h1).symm)
        rw [if_neg e, if_neg hk]
        exact ⟨k0, v0, _, rfl, h1, h2, ih h3⟩
  have app : ∀ {kvs : List (D × D)} {l : List (κ × V)}, DRepG key X.K as H kvs l → DRepG key X.K as H (kvs ++ [(d, x)]) (l ++ [(k, v)]) := by
    intro kvs
    induction kvs with
    | nil => intro l r; have e : l = [] := r; subst e; exact ⟨k, v, [], rfl, h, rv, rfl⟩
    | cons kv kvs ih =>
      intro l r
      obtain ⟨k0, v0, r0, e, h1, h2, h3⟩ := (show ∃ k v r, l = (k, v) :: r ∧ key kv.1 = some k ∧ Rep X.K as H kv.2 v ∧ DRepG key X.K as H kvs r from r)
      subst e
      exact ⟨k0, v0, _, rfl, h1, h2, ih h3⟩
  unfold putD putK
  rw [dany_rep inj r h]
  split
  · exact map r
  · exact app r
end
end
end Pu
end

section
set_option Elab.async false
set_option linter.all false
set_option maxRecDepth 100000
set_option maxHeartbeats 4000000
namespace Pu
open PySem PySem.Spec L2
variable [tb : Tb]

section
variable {X : Cx} {nm : List Str} {W : WX} {σ : L2.St} {as : List Addr} {H : Hp} {st : Store} {Q : VK}
/-- an empty dict is one of both kinds -/
theorem retagK {pins : List (Addr × Obj)} {s : Shared} {a : Addr} (I : Inv X pins σ H s) (h : H a = some (.dT [])) : Inv X pins σ (upd H a (.dK [])) s := by
  obtain ⟨z, hd, xs, r, o, es, ep, h1, h2, h3, h4, h5⟩ := (show ObjOk X.prog X.w H s.heap a (.dT []) from I.hok a _ h)
  cases r
  have e0 : es.toList = [] := h4
  have new : ObjOk X.prog X.w (upd H a (.dK [])) s.heap a (.dK []) := ⟨Nat.zero_le _, hd, [], .nil, o, es, ep, h1, h2, h3, (fun e he => by
    rw [← Array.mem_toList_iff, e0] at he
    cases he), (by rw [e0]; exact .nil), List.nodup_nil⟩
  exact I.write (x := a) (e := a) (t' := s.toks) (h' := s.heap) (by rw [h]; exact trivial) (.inl rfl) (fun b v _ q => q) ⟨o, h1⟩ new
theorem retagT {pins : List (Addr × Obj)} {s : Shared} {a : Addr} (I : Inv X pins σ H s) (h : H a = some (.dK [])) : Inv X pins σ (upd H a (.dT [])) s := by
  obtain ⟨z, hd, vs, r, o, es, ep, h1, h2, h3, h4, h5, h6⟩ := (show ObjOk X.prog X.w H s.heap a (.dK []) from I.hok a _ h)
  cases r
  have e0 : es.toList = [] := by
    have := h5.length
    exact List.length_eq_zero_iff.mp this
  have new : ObjOk X.prog X.w (upd H a (.dT [])) s.heap a (.dT []) := ⟨Nat.zero_le _, hd, [], .nil, o, es, ep, h1, h2, h3, e0, List.nodup_nil⟩
  exact I.write (x := a) (e := a) (t' := s.toks) (h' := s.heap) (by rw [h]; exact trivial) (.inl rfl) (fun b v _ q => q) ⟨o, h1⟩ new
theorem keyT_tup {d : D} {k : List Key} (h : keyT d = some k) : ∃ xs, d = .tup xs := by
  cases d <;> first | exact ⟨_, rfl⟩ | cases h
theorem keyK_flat {d : D} {k : Key} (h : keyK d = some k) : ∀ xs, d ≠ .tup xs := by
  intro xs e
  subst e
  cases h
/-- a dict as it lies -/
theorem dic_at (S : StOk nm X.K X.mg as st H) {d : D} {v : V} {kvs : List (D × D)} (h : dicAt st d = some kvs) (r : Rep X.K as H d v) :
    ∃ i p, d = .ptr i ∧ v = .ref p ∧ as[i]? = some p ∧ ((st[i]? = some (.dic kvs) ∧ ∃ ho, H p = some ho ∧ DRep X.K as H kvs ho) ∨ (kvs ≠ [] ∧ st[i]? = some (.frz kvs) ∧ ∃ ob ho, H p = some (.frz ob ho) ∧ DRep X.K as H kvs ho)) := by
  unfold dicAt obj at h
  cases d with
  | ptr i =>
    obtain ⟨p, hp, e⟩ := (show ∃ p, as[i]? = some p ∧ v = .ref p from r)
    cases q0 : st[i]? with
    | none => simp [q0] at h
    | some o =>
      cases o with
      | dic ys =>
        simp [q0] at h
        subst h
        exact ⟨i, p, rfl, e, hp, .inl ⟨q0, S.at_ i _ p q0 hp⟩⟩
      | frz ys =>
        cases ys with
        | nil => simp [q0] at h
        | cons y ys =>
          simp [q0] at h
          subst h
          exact ⟨i, p, rfl, e, hp, .inr ⟨by simp, q0, S.at_ i _ p q0 hp⟩⟩
      | _ => simp [q0] at h
  | _ => cases h
theorem len_G {κ : Type} {key : D → Option κ} : ∀ {kvs : List (D × D)} {l : List (κ × V)}, DRepG key X.K as H kvs l → l.length = kvs.length
  | [], l, r => by have e : l = [] := r; subst e; rfl
  | kv :: kvs, l, r => by
    obtain ⟨k, v, r0, e, _, _, h3⟩ := (show ∃ k v r, l = (k, v) :: r ∧ key kv.1 = some k ∧ Rep X.K as H kv.2 v ∧ DRepG key X.K as H kvs r from r)
    subst e
    rw [List.length_cons, List.length_cons, len_G h3]
/-- what holds of a dict told anew: the same, as the key's kind wants it -/
structure Retag (X : Cx) (nm : List Str) (as : List Addr) (st : Store) (H H2 : Hp) : Prop where
  inv : ∀ pins σ s, Inv X pins σ H s → Inv X pins σ H2 s
  st : StOk nm X.K X.mg as st H2
  ev : Ev as H as H2
theorem Retag.refl (S : StOk nm X.K X.mg as st H) : Retag X nm as st H H := ⟨fun _ _ _ h => h, S, Ev.refl _ _⟩
theorem retag_flat (S : StOk nm X.K X.mg as st H) {d k : D} {v w : V} {kvs : List (D × D)} (h : dicAt st d = some kvs) (r : Rep X.K as H d v) (hk : keyOk kvs k = true) (hf : flatK k = true) (rk : Rep X.K as H k w) :
    ∃ H2 p l kk, Retag X nm as st H H2 ∧ v = .ref p ∧ Rd H2 p (.dK l) ∧ DRepG keyK X.K as H2 kvs l ∧ keyK k = some kk ∧ w = kV kk ∧ (∀ i, d = .ptr i → st[i]? = some (.dic kvs) → H2 p = some (.dK l)) := by
  obtain ⟨kk, k1, k2⟩ := keyK_rep hf rk
  obtain ⟨i, p, e1, e2, hp, hc⟩ := dic_at S h r
  have nt : ∀ l, DRepG keyT X.K as H kvs l → kvs = [] := by
    intro l hl
    cases kvs with
    | nil => rfl
    | cons kv kvs =>
      obtain ⟨k0, v0, r0, _, h1, _⟩ := (show ∃ k v r, l = (k, v) :: r ∧ keyT kv.1 = some k ∧ Rep X.K as H kv.2 v ∧ DRepG keyT X.K as H kvs r from hl)
      obtain ⟨xs, ex⟩ := keyT_tup h1
      simp only [keyOk, List.all_cons, Bool.and_eq_true] at hk
      have h2 := hk.2.1
      rw [ex] at h2
      cases k <;> simp [flatK] at hf <;> simp [sameK] at h2
  rcases hc with ⟨q0, ho, h1, h2⟩ | ⟨nn, q0, ob, ho, h1, h2⟩
  · rcases h2 with ⟨l, e3, h3⟩ | ⟨l, e3, h3⟩
    · subst e3
      exact ⟨H, p, l, kk, Retag.refl S, e2, .inl h1, h3, k1, k2, fun _ _ _ => h1⟩
    · have hn := nt l h3
      subst hn
      have hl : l = [] := h3
      subst e3 hl
      obtain ⟨S2, ev⟩ := S.set (x := .dK []) (o := .dic []) q0 hp trivial fun _ => ⟨_, upd_same, .inl ⟨[], rfl, rfl⟩⟩
      have es : st.set i (.dic []) = st := by
        refine List.ext_getElem? fun j => ?_
        by_cases hj : i = j
        · subst hj
          rw [List.getElem?_set_self (List.getElem?_eq_some_iff.mp q0).1, q0]
        · rw [List.getElem?_set_ne hj]
      rw [es] at S2
      exact ⟨_, p, [], kk, ⟨fun _ _ _ I => retagK I h1, S2, ev⟩, e2, .inl upd_same, rfl, k1, k2, fun _ _ _ => upd_same⟩
  · rcases h2 with ⟨l, e3, h3⟩ | ⟨l, e3, h3⟩
    · subst e3
      exact ⟨H, p, l, kk, Retag.refl S, e2, .inr ⟨ob, h1⟩, h3, k1, k2, fun j ej hj => by
        rw [e1] at ej; cases ej; rw [q0] at hj; cases hj⟩
    · exact (nn (nt l h3)).elim
theorem retag_tup (S : StOk nm X.K X.mg as st H) {d : D} {ks : List D} {v w : V} {kvs : List (D × D)} (h : dicAt st d = some kvs) (r : Rep X.K as H d v) (hk : keyOk kvs (.tup ks) = true) (rk : Rep X.K as H (.tup ks) w) :
    ∃ H2 p l kk b, Retag X nm as st H H2 ∧ v = .ref p ∧ Rd H2 p (.dT l) ∧ DRepG keyT X.K as H2 kvs l ∧ keyT (.tup ks) = some kk ∧ w = .ref b ∧ H2 b = some (.tup (kk.map kV)) ∧ (∀ i, d = .ptr i → st[i]? = some (.dic kvs) → H2 p = some (.dT l)) := by
  obtain ⟨b, us, eb, hb, r1⟩ := (show ∃ p us, w = .ref p ∧ H p = some (.tup us) ∧ Reps X.K as H ks us from rk)
  have hall : ks.all flatK = true := by
    simp only [keyOk, isKey, Bool.and_eq_true] at hk
    exact hk.1
  obtain ⟨kk, k1, k2⟩ := keysK_rep hall r1
  subst k2
  obtain ⟨i, p, e1, e2, hp, hc⟩ := dic_at S h r
  have nt : ∀ l, DRepG keyK X.K as H kvs l → kvs = [] := by
    intro l hl
    cases kvs with
    | nil => rfl
    | cons kv kvs =>
      obtain ⟨k0, v0, r0, _, h1, _⟩ := (show ∃ k v r, l = (k, v) :: r ∧ keyK kv.1 = some k ∧ Rep X.K as H kv.2 v ∧ DRepG keyK X.K as H kvs r from hl)
      simp only [keyOk, List.all_cons, Bool.and_eq_true] at hk
      have h2 := hk.2.1
      have h3 := keyK_flat h1
      cases q : kv.1 with
      | tup xs => exact (h3 xs q).elim
      | _ => rw [q] at h2; cases h2
  rcases hc with ⟨q0, ho, h1, h2⟩ | ⟨nn, q0, ob, ho, h1, h2⟩
  · rcases h2 with ⟨l, e3, h3⟩ | ⟨l, e3, h3⟩
    · have hn := nt l h3
      subst hn
      have hl : l = [] := h3
      subst e3 hl
      obtain ⟨S2, ev⟩ := S.set (x := .dT []) (o := .dic []) q0 hp trivial fun _ => ⟨_, upd_same, .inr ⟨[], rfl, rfl⟩⟩
      have es : st.set i (.dic []) = st := by
        refine List.ext_getElem? fun j => ?_
        by_cases hj : i = j
        · subst hj
          rw [List.getElem?_set_self (List.getElem?_eq_some_iff.mp q0).1, q0]
        · rw [List.getElem?_set_ne hj]
      rw [es] at S2
      exact ⟨_, p, [], kk, b, ⟨fun _ _ _ I => retagT I h1, S2, ev⟩, e2, .inl upd_same, rfl, k1, eb, by rw [upd_ne (ne_of hb h1 fun z => nomatch z)]; exact hb, fun _ _ _ => upd_same⟩
    · subst e3
      exact ⟨H, p, l, kk, b, Retag.refl S, e2, .inl h1, h3, k1, eb, hb, fun _ _ _ => h1⟩
  · rcases h2 with ⟨l, e3, h3⟩ | ⟨l, e3, h3⟩
    · exact (nn (nt l h3)).elim
    · subst e3
      exact ⟨H, p, l, kk, b, Retag.refl S, e2, .inr ⟨ob, h1⟩, h3, k1, eb, hb, fun j ej hj => by
        rw [e1] at ej; cases ej; rw [q0] at hj; cases hj⟩
/-- looked up -/
theorem dget_at (S : StOk nm X.K X.mg as st H) {d k : D} {v w : V} {kvs : List (D × D)} (h : dicAt st d = some kvs) (r : Rep X.K as H d v) (hk : keyOk kvs k = true) (rk : Rep X.K as H k w) :
    ∃ H2 p o, Retag X nm as st H H2 ∧ v = .ref p ∧ DGet H2 p w o ∧ (match getD kvs k with
      | some x => ∃ z, o = some z ∧ Rep X.K as H2 x z
      | none => o = none) := by
  have split : flatK k = true ∨ ∃ ks, k = .tup ks := by
    simp only [keyOk, Bool.and_eq_true] at hk
    have := hk.1
    cases k <;> simp [isKey] at this <;> first | exact .inl rfl | exact .inr ⟨_, rfl⟩
  rcases split with hf | ⟨ks, e⟩
  · obtain ⟨H2, p, l, kk, R, e2, hd, hr, k1, k2, _⟩ := retag_flat S h r hk hf rk
    have q := dget_rep (fun a b => keyK_inj a b) hr k1
    refine ⟨H2, p, valV l kk, R, e2, .inl ⟨l, kk, hd, k2, rfl⟩, ?_⟩
    cases q0 : getD kvs k with
    | some x => rw [q0] at q; exact q
    | none => rw [q0] at q; exact q
  · subst e
    obtain ⟨H2, p, l, kk, b, R, e2, hd, hr, k1, eb, hb, _⟩ := retag_tup S h r hk rk
    have q := dget_rep (fun a b => keyT_inj a b) hr k1
    refine ⟨H2, p, valV l kk, R, e2, .inr ⟨l, kk, b, hd, eb, hb, rfl⟩, ?_⟩
    cases q0 : getD kvs (.tup ks) with
    | some x => rw [q0] at q; exact q
    | none => rw [q0] at q; exact q
end
end Pu
end

section
set_option Elab.async false
set_option linter.all false
set_option maxRecDepth 100000
set_option maxHeartbeats 4000000
namespace Pu
open PySem PySem.Spec L2
variable [tb : Tb]

section
variable {X : Cx} {nm : List Str} {W : WX} {σ : L2.St} {as : List Addr} {H : Hp} {st : Store} {Q : VK}
/-- a truth told -/
theorem post_bl (S : StOk nm X.K X.mg as st H) {b : Bool} (hP : Post X nm W (RpE X) σ as H (R.ofO ((some b).map D.bl) st) Q) : Q (.bl b) H := hP.val S rfl
theorem isNon_eq {d : D} {v : V} (r : Rep X.K as H d v) : decide (v = .non) = isNon d := by
  rw [rep_non r]
  cases d <;> simp [isNon]
theorem retag_val {H2 : Hp} (R : Retag X nm as st H H2) {α β : Type} {Rp : RpT α β} {a : α} {Q : β → Hp → Prop} {v : β} (hP : Post X nm W Rp σ as H (.ok a st) Q) (r : Rp as H2 a v) : Q v H2 := hP _ _ _ R.ev R.st r
theorem cmp_ok (hu : X.A.units + 65 < cLine) (S : StOk nm X.K X.mg as st H) (o : Cop) {x y : D} {u v : V} (r1 : Rep X.K as H x u) (r2 : Rep X.K as H y v) (hP : Post X nm W (RpE X) σ as H (R.ofO ((cmpD o st x y).map D.bl) st) Q) : WOp X (compareOp (opC o)) u v H Q := by
  have deepEq : ∀ {b : Bool}, eqD st x y = some b → ∃ d e, Dp X.K H u d ∧ Dp X.K H v e ∧ SeqAt.shaped d = true ∧ SeqAt.shaped e = true ∧ PyData.eqv d e = b := by
    intro b h
    unfold eqD at h
    cases q1 : tree deep st x with
    | none => rw [q1] at h; cases h
    | some t1 =>
      cases q2 : tree deep st y with
      | none => rw [q1, q2] at h; cases h
      | some t2 =>
        rw [q1, q2] at h
        cases h
        obtain ⟨a1, a2⟩ := shaped_tree S q1 r1
        obtain ⟨b1, b2⟩ := shaped_tree S q2 r2
        exact ⟨_, _, a1, b1, a2, b2, eqv_py t1 t2⟩
  have inn : ∀ {b : Bool}, inD st x y = some b → (∃ c z, u = .str ⟨#[c]⟩ ∧ v = .str z ∧ decide (c ∈ z.cps.toList) = b) ∨ (∃ H2 p ov, Retag X nm as st H H2 ∧ v = .ref p ∧ DGet H2 p u ov ∧ ov.isSome = b) ∨ ∃ d ds, Dp X.K H u d ∧ Dp X.K H v (.list ds) ∧ SeqAt.shaped d = true ∧ SeqAt.shaped (.list ds) = true ∧ (ds.any fun z => PyData.eqv z d) = b := by
    intro b h
    have lst : ∀ {b : Bool}, inL st x y = some b → ∃ d ds, Dp X.K H u d ∧ Dp X.K H v (.list ds) ∧ SeqAt.shaped d = true ∧ SeqAt.shaped (.list ds) = true ∧ (ds.any fun z => PyData.eqv z d) = b := by
      intro b h
      unfold inL at h
      cases q1 : tree deep st x with
      | none => rw [q1] at h; cases h
      | some t1 =>
        cases q2 : tree deep st y with
        | none => rw [q1, q2] at h; cases h
        | some t2 =>
          rw [q1, q2] at h
          cases t2 with
          | lst ys =>
            cases h
            obtain ⟨a1, a2⟩ := shaped_tree S q1 r1
            obtain ⟨b1, b2⟩ := shaped_tree S q2 r2
            rw [toPy] at b1 b2
            exact ⟨_, _, a1, b1, a2, b2, any_py t1 ys⟩
          | _ => cases h
    have gen : ∀ {b : Bool}, (match dicAt st y with
        | some kvs => if keyOk kvs x then some (getD kvs x).isSome else none
        | none => inL st x y) = some b → (∃ H2 p ov, Retag X nm as st H H2 ∧ v = .ref p ∧ DGet H2 p u ov ∧ ov.isSome = b) ∨ ∃ d ds, Dp X.K H u d ∧ Dp X.K H v (.list ds) ∧ SeqAt.shaped d = true ∧ SeqAt.shaped (.list ds) = true ∧ (ds.any fun z => PyData.eqv z d) = b := by
      intro b h
      cases q : dicAt st y with
      | none => rw [q] at h; exact .inr (lst h)
      | some kvs =>
        rw [q] at h
        have h : (if keyOk kvs x = true then some (getD kvs x).isSome else none) = some b := h
        by_cases hk : keyOk kvs x = true
        · rw [if_pos hk] at h
          cases h
          obtain ⟨H2, p, ov, R, e, g, m⟩ := dget_at S q r2 hk r1
          refine .inl ⟨H2, p, ov, R, e, g, ?_⟩
          cases q0 : getD kvs x with
          | none => rw [q0] at m; rw [m]; rfl
          | some z => rw [q0] at m; obtain ⟨w, e, _⟩ := m; rw [e]; rfl
        · rw [if_neg hk] at h; cases h
    cases y with
    | str s =>
      replace h : inS s x = some b := h
      clear gen lst deepEq hP
      unfold inS at h
      split at h
      · rename_i c
        cases h
        obtain ⟨e1, _⟩ := (show u = .str (sOf [c]) ∧ _ from r1)
        obtain ⟨e2, _⟩ := (show v = .str (sOf s) ∧ _ from r2)
        subst e1 e2
        exact .inl ⟨c, sOf s, rfl, rfl, by rw [sOf_cps]⟩
      · cases h
    | _ => exact .inr (gen h)
  cases o with
  | eq =>
    replace hP : Post X nm W (RpE X) σ as H (R.ofO ((eqD st x y).map D.bl) st) Q := hP
    cases q : eqD st x y with
    | none => rw [q] at hP; exact hP.elim
    | some b =>
      rw [q] at hP
      obtain ⟨d, e, a1, a2, a3, a4, a5⟩ := deepEq q
      exact wop_of (op_eqD (by omega)) ⟨d, e, a1, a2, a3, a4, by rw [a5]; exact post_bl S hP⟩
  | ne =>
    replace hP : Post X nm W (RpE X) σ as H (R.ofO (((eqD st x y).map (!·)).map D.bl) st) Q := hP
    cases q : eqD st x y with
    | none => rw [q] at hP; exact hP.elim
    | some b =>
      rw [q] at hP
      obtain ⟨d, e, a1, a2, a3, a4, a5⟩ := deepEq q
      exact wop_of (op_neD (by omega)) ⟨d, e, a1, a2, a3, a4, by rw [a5]; exact hP.val S rfl⟩
  | is =>
    replace hP : Post X nm W (RpE X) σ as H (R.ofO ((if isNon y then some (isNon x) else none).map D.bl) st) Q := hP
    by_cases hy : isNon y = true
    · rw [if_pos hy] at hP
      have e : v = .non := by
        have := isNon_eq r2
        rw [hy] at this
        exact of_decide_eq_true this
      exact wop_of op_isN ⟨e, by rw [isNon_eq r1]; exact post_bl S hP⟩
    · rw [if_neg hy] at hP; exact hP.elim
  | isn =>
    replace hP : Post X nm W (RpE X) σ as H (R.ofO ((if isNon y then some (!isNon x) else none).map D.bl) st) Q := hP
    by_cases hy : isNon y = true
    · rw [if_pos hy] at hP
      have e : v = .non := by
        have := isNon_eq r2
        rw [hy] at this
        exact of_decide_eq_true this
      exact wop_of op_notN ⟨e, by rw [isNon_eq r1]; exact post_bl S hP⟩
    · rw [if_neg hy] at hP; exact hP.elim
  | inn =>
    replace hP : Post X nm W (RpE X) σ as H (R.ofO ((inD st x y).map D.bl) st) Q := hP
    cases q : inD st x y with
    | none => rw [q] at hP; exact hP.elim
    | some b =>
      rw [q] at hP
      rcases inn q with ⟨c, z, e1, e2, e3⟩ | ⟨H2, p, ov, R, e, g, e3⟩ | ⟨d, ds, a1, a2, a3, a4, a5⟩
      · exact wop_of op_in_sign ⟨c, z, e1, e2, by rw [e3]; exact post_bl S hP⟩
      · intro pins s σ' w1 w2 I q1 q2
        subst e
        cases q2
        refine d_in (by omega) (R.inv _ _ _ I) g q1 fun s' I' => ⟨.bl ov.isSome, H2, I', rfl, ?_⟩
        rw [e3]
        exact retag_val R hP rfl
      · exact wop_of (op_inD hu) ⟨d, ds, a1, a2, a3, a4, by rw [a5]; exact post_bl S hP⟩
  | nin =>
    replace hP : Post X nm W (RpE X) σ as H (R.ofO (((inD st x y).map (!·)).map D.bl) st) Q := hP
    cases q : inD st x y with
    | none => rw [q] at hP; exact hP.elim
    | some b =>
      rw [q] at hP
      rcases inn q with ⟨c, z, e1, e2, e3⟩ | ⟨H2, p, ov, R, e, g, e3⟩ | ⟨d, ds, a1, a2, a3, a4, a5⟩
      · exact wop_of op_notIn_sign ⟨c, z, e1, e2, by rw [e3]; exact hP.val S rfl⟩
      · intro pins s σ' w1 w2 I q1 q2
        subst e
        cases q2
        refine d_notIn (by omega) (R.inv _ _ _ I) g q1 fun s' I' => ⟨.bl (!ov.isSome), H2, I', rfl, ?_⟩
        rw [e3]
        exact retag_val R hP rfl
      · exact wop_of (op_notInD hu) ⟨d, ds, a1, a2, a3, a4, by rw [a5]; exact hP.val S rfl⟩
  | lt =>
    replace hP : Post X nm W (RpE X) σ as H (R.ofO ((ltD x y).map D.bl) st) Q := hP
    unfold ltD at hP
    split at hP
    · cases r1; cases r2
      exact wop_of op_lt ⟨_, _, rfl, rfl, post_bl S hP⟩
    · obtain ⟨e1, _⟩ := (show u = .str (sOf _) ∧ _ from r1)
      obtain ⟨e2, _⟩ := (show v = .str (sOf _) ∧ _ from r2)
      subst e1 e2
      exact wop_of op_lt_str ⟨_, _, rfl, rfl, by rw [sOf_cps, sOf_cps]; exact post_bl S hP⟩
    · exact hP.elim
  | le =>
    replace hP : Post X nm W (RpE X) σ as H (R.ofO ((leD x y).map D.bl) st) Q := hP
    unfold leD at hP
    split at hP
    · cases r1; cases r2
      exact wop_of op_le ⟨_, _, rfl, rfl, post_bl S hP⟩
    · obtain ⟨e1, _⟩ := (show u = .str (sOf _) ∧ _ from r1)
      obtain ⟨e2, _⟩ := (show v = .str (sOf _) ∧ _ from r2)
      subst e1 e2
      exact wop_of op_le_str ⟨_, _, rfl, rfl, by rw [sOf_cps, sOf_cps]; exact post_bl S hP⟩
    · exact hP.elim
  | gt =>
    replace hP : Post X nm W (RpE X) σ as H (R.ofO ((gtD x y).map D.bl) st) Q := hP
    unfold gtD at hP
    split at hP
    · cases r1; cases r2
      exact wop_of op_gt ⟨_, _, rfl, rfl, post_bl S hP⟩
    · obtain ⟨e1, _⟩ := (show u = .str (sOf _) ∧ _ from r1)
      obtain ⟨e2, _⟩ := (show v = .str (sOf _) ∧ _ from r2)
      subst e1 e2
      exact wop_of op_gt_str ⟨_, _, rfl, rfl, by rw [sOf_cps, sOf_cps]; exact post_bl S hP⟩
    · exact hP.elim
  | ge =>
    replace hP : Post X nm W (RpE X) σ as H (R.ofO ((geD x y).map D.bl) st) Q := hP
    unfold geD at hP
    split at hP
    · cases r1; cases r2
      exact wop_of op_ge ⟨_, _, rfl, rfl, post_bl S hP⟩
    · obtain ⟨e1, _⟩ := (show u = .str (sOf _) ∧ _ from r1)
      obtain ⟨e2, _⟩ := (show v = .str (sOf _) ∧ _ from r2)
      subst e1 e2
      exact wop_of op_ge_str ⟨_, _, rfl, rfl, by rw [sOf_cps, sOf_cps]; exact post_bl S hP⟩
    · exact hP.elim

/-! subscripts -/
def WIx (X : Cx) : R2 := fun x y H Q => ∀ (value slice : Expr) pins s σ v u, Inv X pins σ H s → RelV x v → RelV y u → subscripted slice false v u = operate [v, u] (getItem v u) → wpAny (model X.prog X.w) X.A (PyProof.Rows.subscriptTail value slice v u) (EP X pins σ Q) X.xe s
theorem wix_r : IxR X (WIx X) := fun value slice pins s σ _ _ _ v u _ I r1 r2 h hs => h value slice pins s σ v u I r1 r2 hs
theorem wix_of {r : R2} (o : IxR X r) {x y : V} {H : Hp} {Q : VK} (h : r x y H Q) : WIx X x y H Q := fun value slice pins s σ v u I r1 r2 hs => o value slice pins s σ H x y v u Q I r1 r2 h hs
theorem atI_of {α : Type} {xs : List α} {i : Int} {k : Nat} {x : α} (h : ixN xs.length i = some k) (hx : xs[k]? = some x) : atI xs i = some x := by
  unfold atI
  rw [ixN_eq, h]
  exact hx
theorem sub_ok (hu : X.A.units + 1 < cLine) (S : StOk nm X.K X.mg as st H) {x y : D} {u v : V} (r1 : Rep X.K as H x u) (r2 : Rep X.K as H y v) (hP : Post X nm W (RpE X) σ as H (R.ofO (subD st x y) st) Q) : WIx X u v H Q := by
  have gen : Post X nm W (RpE X) σ as H (R.ofO (match dicAt st x with
    | some kvs => if keyOk kvs y then getD kvs y else none
    | none => (seqAt st x).bind fun xs => subL xs y) st) Q → WIx X u v H Q := by
    intro hP
    cases q : dicAt st x with
    | some kvs =>
      rw [q] at hP
      replace hP : Post X nm W (RpE X) σ as H (R.ofO (if keyOk kvs y then getD kvs y else none) st) Q := hP
      by_cases hk : keyOk kvs y = true
      · rw [if_pos hk] at hP
        obtain ⟨H2, p, ov, R, e, g, m⟩ := dget_at S q r1 hk r2
        cases q0 : getD kvs y with
        | none => rw [q0] at hP; exact hP.elim
        | some z =>
          rw [q0] at m hP
          obtain ⟨w, e2, rw⟩ := m
          subst e e2
          intro value slice pins s σ' w1 w2 I k1 k2 hs
          cases k1
          have I2 := R.inv _ _ _ I
          exact PyProof.Rows.tail_any (dict_typeIs I2 g) PySem.F.slot_dict_getitem.lookup (d_getItem hu I2 g k2 fun w' s' I' rw' => ⟨w, H2, I', rw', retag_val R hP rw⟩) hs
      · rw [if_neg hk] at hP; exact hP.elim
    | none =>
      rw [q] at hP
      replace hP : Post X nm W (RpE X) σ as H (R.ofO ((seqAt st x).bind fun xs => subL xs y) st) Q := hP
      cases q2 : seqAt st x with
      | none => rw [q2] at hP; exact hP.elim
      | some xs =>
        rw [q2] at hP
        replace hP : Post X nm W (RpE X) σ as H (R.ofO (subL xs y) st) Q := hP
        obtain ⟨p, us, e, hs, rs⟩ := seq_at S q2 r1
        subst e
        cases y with
        | int i =>
          cases r2
          replace hP : Post X nm W (RpE X) σ as H (R.ofO ((ixN xs.length i).bind fun k => xs[k]?) st) Q := hP
          cases q3 : ixN xs.length i with
          | none => rw [q3] at hP; exact hP.elim
          | some k =>
            rw [q3] at hP
            replace hP : Post X nm W (RpE X) σ as H (R.ofO xs[k]? st) Q := hP
            cases q4 : xs[k]? with
            | none => rw [q4] at hP; exact hP.elim
            | some z =>
              rw [q4] at hP
              obtain ⟨w, h1, h2⟩ := rs.get q4
              have ha : atI us i = some w := atI_of (by rw [rs.length]; exact q3) h1
              rcases hs with hs | hs
              · exact wix_of ix_list ⟨p, us, i, w, rfl, rfl, hs, ha, hP.val S h2⟩
              · exact wix_of ix_tup ⟨p, us, i, w, rfl, rfl, hs, ha, hP.val S h2⟩
        | _ => exact hP.elim
  cases x with
  | str s =>
    replace hP : Post X nm W (RpE X) σ as H (R.ofO (subS s y) st) Q := hP
    obtain ⟨e1, ok⟩ := (show u = .str (sOf s) ∧ okS s = true from r1)
    subst e1
    cases y with
    | int i =>
      cases r2
      replace hP : Post X nm W (RpE X) σ as H (R.ofO (if s.length ≤ lim then ((ixN s.length i).bind fun k => s[k]?).map fun c => .str [c] else none) st) Q := hP
      by_cases hl : s.length ≤ lim
      · rw [if_pos hl] at hP
        cases q3 : ixN s.length i with
        | none => rw [q3] at hP; exact hP.elim
        | some k =>
          rw [q3] at hP
          cases q4 : s[k]? with
          | none => simp only [Option.bind_some, q4] at hP; exact hP.elim
          | some c =>
            simp only [Option.bind_some, q4] at hP
            refine wix_of ix_str ⟨sOf s, i, c, rfl, rfl, by rw [sOf_len]; exact lim_le hl, by rw [sOf_cps]; exact atI_of q3 q4, hP.val S ⟨rfl, ?_⟩⟩
            have := List.all_eq_true.mp ok c (List.mem_of_getElem? q4)
            simpa [okS] using this
      · rw [if_neg hl] at hP; exact hP.elim
    | _ => exact hP.elim
  | _ => exact gen hP
end
end Pu
end

section
set_option Elab.async false
set_option linter.all false
set_option maxRecDepth 100000
set_option maxHeartbeats 4000000
namespace Pu
open PySem PySem.Spec L2
variable [tb : Tb]

section
variable {X : Cx} {nm : List Str} {W : WX} {σ : L2.St} {as : List Addr} {H : Hp} {st : Store} {Q : VK}
/-! slices -/
def WSl (X : Cx) : V → Option Int → Option Int → Hp → VK → Prop := fun x lo hi H Q => (∃ z, x = .str z ∧ z.length ≤ sizeLine ∧ Q (.str (cutS z lo hi)) H) ∨ rSlA X.K x lo hi H Q ∨ rSlL X.K x lo hi H Q
theorem wsl_r : SlR X (WSl X) := fun pins s σ H x v vl vu lo hi sl Q I rx hs pl pu h => by
  rcases h with h | h | h
  · exact sl_str pins s σ H x v vl vu lo hi sl Q I rx hs pl pu h
  · exact sl_tupA pins s σ H x v vl vu lo hi sl Q I rx hs pl pu h
  · exact sl_list pins s σ H x v vl vu lo hi sl Q I rx hs pl pu h
theorem cut_eq (xs : List V) (lo hi : Option Int) : cutV xs lo hi = cut xs lo hi := by
  unfold cutV cut
  rw [slIx_eq, slIx_eq]
theorem reps_cut {xs : List D} {us : List V} (r : Reps X.K as H xs us) (lo hi : Option Int) : Reps X.K as H (cut xs lo hi) (cut us lo hi) := by
  unfold cut
  rw [r.length]
  exact Reps.take _ (Reps.drop _ r)
theorem okS_cut {s : Txt} (h : okS s = true) (lo hi : Option Int) : okS (cut s lo hi) = true := by
  unfold okS at *
  rw [List.all_eq_true] at *
  intro x hx
  exact h x (List.mem_of_mem_drop (List.mem_of_mem_take hx))
theorem cutS_eq (s : Txt) (lo hi : Option Int) : cutS (sOf s) lo hi = sOf (cut s lo hi) := by
  unfold cutS cut
  rw [slIx_eq, slIx_eq, sOf_len, sOf_cps] <;> rfl
theorem cut_all {xs : List D} {lo hi : Option Int} (h1 : slIx xs.length 0 lo = 0) (h2 : slIx xs.length xs.length hi = xs.length) : cut xs lo hi = xs := by
  unfold cut
  rw [h1, h2]
  simp
theorem sli_ok (S : StOk nm X.K X.mg as st H) {x : D} {u : V} (r1 : Rep X.K as H x u) (lo hi : Option Int) (hP : Post X nm W (RpE X) σ as H (sliD x lo hi st) Q) : WSl X u lo hi H Q := by
  have gen : Post X nm W (RpE X) σ as H (match lstAt st x with
    | some xs => new (.lst (cut xs lo hi)) st
    | none => .bad) Q → WSl X u lo hi H Q := by
    intro hP
    cases q : lstAt st x with
    | none => rw [q] at hP; exact hP.elim
    | some xs =>
      rw [q] at hP
      obtain ⟨i, p, us, _, e1, _, _, h1, q1⟩ := lst_at S q r1
      subst e1
      exact .inr (.inr ⟨p, us, rfl, .inl (.inl h1), fun b hb => by rw [cut_eq]; exact post_lst S hP (reps_cut q1 lo hi) hb⟩)
  cases x with
  | str s =>
    replace hP : Post X nm W (RpE X) σ as H (if s.length ≤ lim then .ok (.str (cut s lo hi)) st else .bad) Q := hP
    by_cases hl : s.length ≤ lim
    · rw [if_pos hl] at hP
      obtain ⟨e1, ok⟩ := (show u = .str (sOf s) ∧ okS s = true from r1)
      subst e1
      exact .inl ⟨sOf s, rfl, by rw [sOf_len]; exact lim_le hl, by rw [cutS_eq]; exact hP.val S ⟨rfl, okS_cut ok lo hi⟩⟩
    · rw [if_neg hl] at hP; exact hP.elim
  | tup xs =>
    replace hP : Post X nm W (RpE X) σ as H (.ok (.tup (cut xs lo hi)) st) Q := hP
    obtain ⟨p, us, e1, h1, q1⟩ := (show ∃ p us, u = .ref p ∧ H p = some (.tup us) ∧ Reps X.K as H xs us from r1)
    subst e1
    have hl := q1.length
    refine .inr (.inl ⟨p, us, rfl, .inl (.inl h1), fun hw => ?_, fun hw b hb => ?_⟩)
    · rw [slIx_eq, slIx_eq, hl] at hw
      rw [cut_all hw.1 hw.2] at hP
      exact hP.val S ⟨p, us, rfl, h1, q1⟩
    · rw [cut_eq]
      exact post_tup S hP (reps_cut q1 lo hi) hb
  | _ => exact gen hP

/-! built-ins -/
theorem blsD_at : ∀ {xs : List D} {us : List V} {bs : List Bool}, blsD xs = some bs → Reps X.K as H xs us → us = bs.map V.bl := by
  intro xs
  induction xs with
  | nil =>
    intro us bs h r
    have : bs = [] := by simpa [blsD] using h.symm
    subst this
    exact r.nil_inv
  | cons x xs ih =>
    intro us bs h r
    obtain ⟨u, w, e, r1, r2⟩ := r.inv
    unfold blsD at h
    rw [mapM_cons] at h
    cases x with
    | bl b =>
      cases r1
      cases q : blsD xs with
      | none => unfold blsD at q; simp [q] at h
      | some cs =>
        have q' := q
        unfold blsD at q'
        simp [q'] at h
        subst h e
        rw [ih q r2]
        rfl
    | _ => simp at h
theorem intsD_at : ∀ {xs : List D} {us : List V} {bs : List Int}, intsD xs = some bs → Reps X.K as H xs us → us = bs.map V.int := by
  intro xs
  induction xs with
  | nil =>
    intro us bs h r
    have : bs = [] := by simpa [intsD] using h.symm
    subst this
    exact r.nil_inv
  | cons x xs ih =>
    intro us bs h r
    obtain ⟨u, w, e, r1, r2⟩ := r.inv
    unfold intsD at h
    rw [mapM_cons] at h
    cases x with
    | int b =>
      cases r1
      cases q : intsD xs with
      | none => unfold intsD at q; simp [q] at h
      | some cs =>
        have q' := q
        unfold intsD at q'
        simp [q'] at h
        subst h e
        rw [ih q r2]
        rfl
    | _ => simp at h
theorem txtsD_at : ∀ {xs : List D} {us : List V} {bs : List Txt}, txtsD xs = some bs → Reps X.K as H xs us → us = bs.map (fun s => V.str (sOf s)) ∧ ∀ s ∈ bs, okS s = true := by
  intro xs
  induction xs with
  | nil =>
    intro us bs h r
    have : bs = [] := by simpa [txtsD] using h.symm
    subst this
    exact ⟨r.nil_inv, by simp⟩
  | cons x xs ih =>
    intro us bs h r
    obtain ⟨u, w, e, r1, r2⟩ := r.inv
    unfold txtsD at h
    rw [mapM_cons] at h
    cases x with
    | str b =>
      obtain ⟨e1, ok⟩ := (show u = .str (sOf b) ∧ okS b = true from r1)
      subst e1
      cases q : txtsD xs with
      | none => unfold txtsD at q; simp [q] at h
      | some cs =>
        have q' := q
        unfold txtsD at q'
        simp [q'] at h
        subst h e
        obtain ⟨i1, i2⟩ := ih q r2
        rw [i1]
        exact ⟨rfl, fun s hs => by
          rcases List.mem_cons.mp hs with e | hs
          · rw [e]; exact ok
          · exact i2 s hs⟩
    | _ => simp at h
/-! sorting -/
theorem insT_perm (x : Txt) : ∀ l : List Txt, (insT x l).Perm (x :: l)
  | [] => List.Perm.refl _
  | y :: ys => by
    unfold insT
    split
    · exact List.Perm.refl _
    · exact ((insT_perm x ys).cons y).trans (List.Perm.swap x y ys)
theorem sortT_perm : ∀ l : List Txt, (sortT l).Perm l
  | [] => List.Perm.refl _
  | x :: xs => (insT_perm x (sortT xs)).trans ((sortT_perm xs).cons x)
/-- not greater -/
def leT (a b : Txt) : Prop := ¬ b < a
theorem leT_of_lt {a b : Txt} (h : a < b) : leT a b := fun h2 => List.lt_irrefl a (List.lt_trans h h2)
theorem leT_trans {a b c : Txt} (h : leT a b) (h2 : leT b c) : leT a c := by
  unfold leT at *
  rw [List.not_lt] at *
  exact List.le_trans h h2
theorem leT_anti {a b : Txt} (h : leT a b) (h2 : leT b a) : a = b := by
  unfold leT at *
  rw [List.not_lt] at *
  exact List.le_antisymm h h2
theorem insT_pw (x : Txt) : ∀ {l : List Txt}, l.Pairwise leT → (insT x l).Pairwise leT
  | [], _ => List.pairwise_singleton _ _
  | y :: ys, h => by
    unfold insT
    obtain ⟨h1, h2⟩ := List.pairwise_cons.mp h
    split
    · rename_i hlt
      have hlt : x < y := of_decide_eq_true hlt
      exact List.pairwise_cons.mpr ⟨fun z hz => by
        rcases List.mem_cons.mp hz with e | hz
        · rw [e]; exact leT_of_lt hlt
        · exact leT_trans (leT_of_lt hlt) (h1 z hz), h⟩
    · rename_i hlt
      have hge : leT y x := fun q => hlt (decide_eq_true q)
      exact List.pairwise_cons.mpr ⟨fun z hz => by
        rcases List.mem_cons.mp ((insT_perm x ys).mem_iff.mp hz) with e | hz
        · rw [e]; exact hge
        · exact h1 z hz, insT_pw x h2⟩
theorem sortT_pw : ∀ l : List Txt, (sortT l).Pairwise leT
  | [] => List.Pairwise.nil
  | x :: xs => insT_pw x (sortT_pw xs)
/-- one rising list of these -/
theorem pw_unique : ∀ {a b : List Txt}, a.Perm b → a.Pairwise leT → b.Pairwise leT → a = b
  | [], b, p, _, _ => (List.perm_nil.mp p.symm).symm
  | x :: xs, b, p, h1, h2 => by
    cases b with
    | nil => exact absurd p.length_eq (by simp)
    | cons y ys =>
      obtain ⟨a1, a2⟩ := List.pairwise_cons.mp h1
      obtain ⟨b1, b2⟩ := List.pairwise_cons.mp h2
      have refl : ∀ z : Txt, leT z z := fun z => List.lt_irrefl z
      have e : x = y := by
        have hx : x ∈ y :: ys := p.mem_iff.mp List.mem_cons_self
        have hy : y ∈ x :: xs := p.mem_iff.mpr List.mem_cons_self
        have l1 : leT y x := by
          rcases List.mem_cons.mp hx with e | hx
          · rw [e]; exact refl y
          · exact b1 x hx
        have l2 : leT x y := by
          rcases List.mem_cons.mp hy with e | hy
          · rw [e]; exact refl x
          · exact a1 y hy
        exact leT_anti l2 l1
      subst e
      rw [pw_unique (List.Perm.cons_inv p) a2 b2]
theorem rising_pw : ∀ (p : Str) (l : List Str), PyProof.Rows.risingS p l = true → (p :: l).Pairwise (fun a b => leT a.cps.toList b.cps.toList)
  | p, [], _ => List.pairwise_singleton _ _
  | p, x :: l, h => by
    have h : (!ltCps x.cps.toList p.cps.toList && PyProof.Rows.risingS x l) = true := h
    rw [Bool.and_eq_true] at h
    obtain ⟨h1, h2⟩ := h
    have ih := rising_pw x l h2
    have hx : leT p.cps.toList x.cps.toList := fun q => by
      rw [PyProof.Rows.ltCps_eq, decide_eq_true q] at h1
      cases h1
    refine List.pairwise_cons.mpr ⟨fun z hz => ?_, ih⟩
    rcases List.mem_cons.mp hz with e | hz
    · rw [e]; exact hx
    · exact leT_trans hx ((List.pairwise_cons.mp ih).1 z hz)
theorem sorted_pw {l : List Str} (h : PyProof.Rows.sortedS l = true) : l.Pairwise (fun a b => leT a.cps.toList b.cps.toList) := by
  cases l with
  | nil => exact List.Pairwise.nil
  | cons p l => exact rising_pw p l h
theorem sorted_is {xs : List Txt} {ys : List Str} (p : ys.Perm (xs.map sOf)) (h : PyProof.Rows.sortedS ys = true) : ys = (sortT xs).map sOf := by
  have h1 := sorted_pw h
  have h2 : (ys.map fun z => z.cps.toList).Pairwise leT := List.pairwise_map.mpr h1
  have p2 : (ys.map fun z => z.cps.toList).Perm (sortT xs) := by
    have := p.map fun z : Str => z.cps.toList
    rw [List.map_map] at this
    have e : ((fun z : Str => z.cps.toList) ∘ sOf) = id := funext fun z => sOf_cps z
    rw [e, List.map_id] at this
    exact this.trans (sortT_perm xs).symm
  have e := pw_unique p2 h2 (sortT_pw xs)
  rw [← e, List.map_map]
  have e2 : (sOf ∘ fun z : Str => z.cps.toList) = id := funext fun z => by
    cases z
    simp [sOf]
  rw [e2, List.map_id]
theorem reps_txt : ∀ {bs : List Txt}, (∀ s ∈ bs, okS s = true) → Reps X.K as H (bs.map D.str) (bs.map fun s => V.str (sOf s))
  | [], _ => rfl
  | b :: bs, h => ⟨_, _, rfl, ⟨rfl, h b List.mem_cons_self⟩, reps_txt fun s hs => h s (List.mem_cons_of_mem _ hs)⟩
/-! numbers as texts -/
theorem digits_ok (n : Nat) : okS (digits n) = true := by
  unfold okS digits
  rw [List.all_eq_true]
  intro c hc
  obtain ⟨ch, _, e⟩ := List.mem_map.mp hc
  subst e
  have : ch.toNat < 1114112 := by
    have h := ch.valid
    have : ch.val.toNat.isValidChar := h
    rcases this with h | h
    · show ch.val.toNat < _; omega
    · show ch.val.toNat < _; omega
  exact decide_eq_true this
end
end Pu
end

section
set_option Elab.async false
set_option linter.all false
set_option maxRecDepth 100000
set_option maxHeartbeats 4000000
namespace Pu
open PySem PySem.Spec L2
variable [tb : Tb]

section
variable {X : Cx} {nm : List Str} {W : WX} {σ : L2.St} {as : List Addr} {H : Hp} {st : Store} {Q : VK}
/-! built-ins called -/
def bv : Bf → Value
  | .len => .builtin "len" | .int => .type "int" | .str => .type "str" | .all => .builtin "all" | .any => .builtin "any" | .list => .type "list" | .tuple => .type "tuple" | .sorted => .builtin "sorted" | .sum => .builtin "sum" | .max => .builtin "max" | .min => .builtin "min"
  | _ => .none
theorem blt_ok (hc : X.calm = true) (S : StOk nm X.K X.mg as st H) (f : Bf) {xs : List D} {us : List V} (r : Reps X.K as H xs us) (hP : Post X nm W (RpE X) σ as H (bltD f xs st) Q) : WCl X (bv f) us H Q := by
  have one : ∀ {x : D}, Reps X.K as H [x] us → ∃ u, us = [u] ∧ Rep X.K as H x u := fun r => by
    obtain ⟨u, w, e, r1, r2⟩ := r.inv
    have := r2.nil_inv
    subst this
    exact ⟨u, e, r1⟩
  have two : ∀ {x y : D}, Reps X.K as H [x, y] us → ∃ u v, us = [u, v] ∧ Rep X.K as H x u ∧ Rep X.K as H y v := fun r => by
    obtain ⟨u, w, e, r1, r2⟩ := r.inv
    obtain ⟨v, w2, e2, r3, r4⟩ := r2.inv
    have := r4.nil_inv
    subst this e2
    exact ⟨u, v, e, r1, r3⟩
  unfold bltD at hP
  split at hP
  · -- len
    rename_i a
    obtain ⟨u, e, r1⟩ := one r
    subst e
    have gen : Post X nm W (RpE X) σ as H (match seqAt st a with
        | some xs => .ok (.int xs.length) st
        | none => .bad) Q → WCl X (.builtin "len") [u] H Q := by
      intro hP
      cases q : seqAt st a with
      | some xs =>
        rw [q] at hP
        obtain ⟨p, us, e, hs, rs⟩ := seq_at S q r1
        subst e
        refine wcl_of call_len ⟨.ref p, xs.length, rfl, ?_, hP.val S rfl⟩
        rcases hs with hs | hs
        · exact .inl ⟨us, hs, rs.length.symm⟩
        · exact .inr ⟨us, hs, rs.length.symm⟩
      | none => rw [q] at hP; exact hP.elim
    cases a with
    | str s =>
      replace hP : Post X nm W (RpE X) σ as H (if s.length ≤ lim then .ok (.int s.length) st else .bad) Q := hP
      by_cases hl : s.length ≤ lim
      · rw [if_pos hl] at hP
        obtain ⟨e1, ok⟩ := (show u = .str (sOf s) ∧ okS s = true from r1)
        subst e1
        exact wcl_of call_len_str ⟨sOf s, rfl, by rw [sOf_len]; exact lim_le hl, by rw [sOf_len]; exact hP.val S rfl⟩
      · rw [if_neg hl] at hP; exact hP.elim
    | _ => exact gen hP
  · -- int
    rename_i a
    obtain ⟨u, e, r1⟩ := one r
    subst e
    unfold intD at hP
    split at hP
    · cases r1; exact wcl_of call_int1 (.inl ⟨_, rfl, hP.val S rfl⟩)
    · cases r1; exact wcl_of call_int1 (.inr ⟨_, rfl, hP.val S rfl⟩)
    · exact hP.elim
  · -- str
    rename_i a
    obtain ⟨u, e, r1⟩ := one r
    subst e
    unfold strD at hP
    split at hP
    · rename_i n
      split at hP
      · rename_i hn
        cases r1
        have e : Str.ofString (toString ((n : Nat) : Int)) = sOf (digits n) := by
          have := PySem.W.KIN.signs_num n
          unfold digits sOf
          rw [← this]
        refine wcl_of call_str_int ⟨(n : Int), rfl, ?_, ?_⟩
        · have : (n : Int).natAbs = n := Int.natAbs_natCast n
          rw [this]
          by_cases h0 : n = 0
          · subst h0; decide
          · have h2 : n.log2 < 67 := (Nat.log2_lt h0).mpr (Nat.lt_trans hn (by decide))
            omega
        · show Q (.str (Str.ofString (toString ((n : Nat) : Int)))) H
          rw [e]
          exact hP.val S ⟨rfl, digits_ok n⟩
      · exact hP.elim
    · exact hP.elim
  · -- all
    rename_i a
    obtain ⟨u, e, r1⟩ := one r
    subst e
    unfold allD at hP
    cases q : lstAt st a with
    | none => rw [q] at hP; exact hP.elim
    | some ys =>
      rw [q] at hP
      obtain ⟨i, p, us, _, e1, _, _, h1, q1⟩ := lst_at S q r1
      cases q2 : blsD ys with
      | none => simp only [Option.bind_some, q2] at hP; exact hP.elim
      | some bs =>
        simp only [Option.bind_some, q2] at hP
        have e := blsD_at q2 q1
        subst e e1
        exact wcl_of (cr_all hc) ⟨p, bs, rfl, .inl (.inl h1), hP.val S rfl⟩
  · -- any
    rename_i a
    obtain ⟨u, e, r1⟩ := one r
    subst e
    unfold anyD at hP
    cases q : lstAt st a with
    | none => rw [q] at hP; exact hP.elim
    | some ys =>
      rw [q] at hP
      obtain ⟨i, p, us, _, e1, _, _, h1, q1⟩ := lst_at S q r1
      cases q2 : blsD ys with
      | none => simp only [Option.bind_some, q2] at hP; exact hP.elim
      | some bs =>
        simp only [Option.bind_some, q2] at hP
        have e := blsD_at q2 q1
        subst e e1
        exact wcl_of (cr_any hc) ⟨p, bs, rfl, .inl (.inl h1), hP.val S rfl⟩
  · -- list
    rename_i a
    obtain ⟨u, e, r1⟩ := one r
    subst e
    unfold listD at hP
    cases q : seqAt st a with
    | none => rw [q] at hP; exact hP.elim
    | some ys =>
      rw [q] at hP
      obtain ⟨p, us, e, hs, rs⟩ := seq_at S q r1
      subst e
      exact wcl_of call_list_of ⟨p, us, rfl, hs, fun b hb => post_lst S hP rs hb⟩
  · -- tuple
    rename_i a
    obtain ⟨u, e, r1⟩ := one r
    subst e
    unfold tupleD at hP
    cases q : seqAt st a with
    | none => rw [q] at hP; exact hP.elim
    | some ys =>
      rw [q] at hP
      replace hP : Post X nm W (RpE X) σ as H (.ok (.tup ys) st) Q := hP
      cases a with
      | tup zs =>
        cases q
        obtain ⟨p, us, e1, h1, q1⟩ := (show ∃ p us, u = .ref p ∧ H p = some (.tup us) ∧ Reps X.K as H _ us from r1)
        subst e1
        exact wcl_of call_tuple_of ⟨p, us, rfl, .inr ⟨.inl (.inl h1), hP.val S ⟨p, us, rfl, h1, q1⟩⟩⟩
      | scr ns =>
        cases q
        obtain ⟨p, e, hp⟩ := (show ∃ p, u = .ref p ∧ SRl X.K H p (ns.map V.int) from r1)
        subst e
        exact wcl_of call_tuple_of ⟨p, _, rfl, .inl ⟨hp.sq, fun b hb => post_tup S hP (reps_int ns) hb⟩⟩
      | ptr i =>
        obtain ⟨_, p, us, _, e, _, _, h1, rs⟩ := lst_at S (d := .ptr i) q r1
        subst e
        exact wcl_of call_tuple_of ⟨p, us, rfl, .inl ⟨.inl (.inl h1), fun b hb => post_tup S hP rs hb⟩⟩
      | _ => cases q
  · -- sorted
    rename_i a
    obtain ⟨u, e, r1⟩ := one r
    subst e
    unfold sortedD at hP
    cases q : lstAt st a with
    | none => rw [q] at hP; exact hP.elim
    | some ys =>
      rw [q] at hP
      obtain ⟨i, p, us, _, e1, _, _, h1, q1⟩ := lst_at S q r1
      cases q2 : txtsD ys with
      | none => simp only [Option.bind_some, q2] at hP; exact hP.elim
      | some bs =>
        simp only [Option.bind_some, q2] at hP
        obtain ⟨e, ok⟩ := txtsD_at q2 q1
        subst e1
        split at hP
        · rename_i hl
          refine wcl_of cr_sortedS ⟨p, bs.map sOf, rfl, .inl (.inl (by rw [h1, e, List.map_map]; rfl)), by rw [List.length_map]; exact hl, fun zs b hz hs hb => ?_⟩
          have ez := sorted_is hz hs
          rw [ez, List.map_map]
          exact post_lst S hP (reps_txt fun s hs => ok s ((sortT_perm bs).mem_iff.mp hs)) hb
        · exact hP.elim
  · -- sum
    rename_i a
    obtain ⟨u, e, r1⟩ := one r
    subst e
    unfold sumD at hP
    cases q : lstAt st a with
    | none => rw [q] at hP; exact hP.elim
    | some ys =>
      rw [q] at hP
      obtain ⟨i, p, us, _, e1, _, _, h1, q1⟩ := lst_at S q r1
      cases q2 : intsD ys with
      | none => simp only [Option.bind_some, q2] at hP; exact hP.elim
      | some bs =>
        simp only [Option.bind_some, q2] at hP
        have e := intsD_at q2 q1
        subst e e1
        exact wcl_of (cr_sum hc) ⟨p, bs, rfl, .inl (.inl h1), hP.val S rfl⟩
  · -- max
    obtain ⟨u, v, e, r1, r2⟩ := two r
    subst e
    unfold maxD at hP
    split at hP
    · cases r1; cases r2
      exact wcl_of (call_max2 hc) ⟨_, _, rfl, hP.val S rfl⟩
    · exact hP.elim
  · -- min
    obtain ⟨u, v, e, r1, r2⟩ := two r
    subst e
    unfold minD at hP
    split at hP
    · cases r1; cases r2
      exact wcl_of (call_min2 hc) ⟨_, _, rfl, hP.val S rfl⟩
    · exact hP.elim
  · exact hP.elim
end
end Pu
end

section
set_option Elab.async false
set_option linter.all false
set_option maxRecDepth 100000
set_option maxHeartbeats 4000000
namespace Pu
open PySem PySem.Spec L2
variable [tb : Tb]

section
variable {X : Cx} {nm : List Str} {W : WX} {σ : L2.St} {as : List Addr} {H : Hp} {st : Store} {Q : VK}
/-- a list changed -/
theorem post_set (S : StOk nm X.K X.mg as st H) {i : Nat} {p : Addr} {o0 o : O} {x : HO} {a : D} {v : V} (q0 : st[i]? = some o0) (hp : as[i]? = some p) (ho : Own x) (h : Ev as H as (upd H p x) → OAt nm X.K X.mg as (upd H p x) p o)
    (hP : Post X nm W (RpE X) σ as H (.ok a (st.set i o)) Q) (hr : Ev as H as (upd H p x) → Rep X.K as (upd H p x) a v) (hf : ∀ kvs, o0 ≠ .frz kvs := by intro _ z; cases z) : Q v (upd H p x) := by
  obtain ⟨S', e⟩ := S.set q0 hp ho h hf
  exact hP _ _ _ e S' (hr e)
theorem post_setL (S : StOk nm X.K X.mg as st H) {i : Nat} {p : Addr} {o0 : O} {ys : List D} {us : List V} {a : D} {v : V} (q0 : st[i]? = some o0) (hp : as[i]? = some p) (r : Reps X.K as H ys us)
    (hP : Post X nm W (RpE X) σ as H (.ok a (st.set i (.lst ys))) Q) (hr : Rep X.K as H a v) (hf : ∀ kvs, o0 ≠ .frz kvs := by intro _ z; cases z) : Q v (upd H p (.lst us)) :=
  post_set (o := .lst ys) S q0 hp trivial (fun e => ⟨us, upd_same, Reps.ev S.owns e _ _ r⟩) hP (fun e => Rep.ev S.owns e _ _ hr) hf
theorem mt_w {id : String} {r : V → List V → Hp → VK → Prop} (o : MtR X id r) {x : V} {xs : List V} {H : Hp} {Q : VK} (h : r x xs H Q) : WMt X id x xs H Q := fun pins s σ v us I r1 r2 => o pins s σ H x xs v us Q I r1 r2 h
theorem wmt_r {id : String} : MtR X id (WMt X id) := fun pins s σ _ x xs v us _ I r1 r2 h => h pins s σ v us I r1 r2
theorem reps_one {x : D} {us : List V} (r : Reps X.K as H [x] us) : ∃ u, us = [u] ∧ Rep X.K as H x u := by
  obtain ⟨u, w, e, r1, r2⟩ := r.inv
  have := r2.nil_inv
  subst this
  exact ⟨u, e, r1⟩
theorem append_ok (S : StOk nm X.K X.mg as st H) {o x : D} {u v : V} (r1 : Rep X.K as H o u) (r2 : Rep X.K as H x v) (hP : Post X nm W (RpE X) σ as H (appendD o x st) Q) : WMt X "list.append" u [v] H Q := by
  unfold appendD at hP
  cases q : lstAt st o with
  | none => rw [q] at hP; exact hP.elim
  | some ys =>
    rw [q] at hP
    obtain ⟨i, p, us, e0, e1, q0, hp, h1, q1⟩ := lst_at S q r1
    subst e0 e1
    replace hP : Post X nm W (RpE X) σ as H (if ys.length < lim then .ok .non (st.set i (.lst (ys ++ [x]))) else .bad) Q := hP
    split at hP
    · rename_i hl
      exact mt_w mt_append ⟨p, us, v, rfl, rfl, h1, by rw [q1.length]; exact lim_lt (Nat.le_of_lt hl), post_setL S q0 hp (q1.app (Reps.cons (ds := []) (us := []) r2 rfl)) hP rfl⟩
    · exact hP.elim
theorem clear_ok (S : StOk nm X.K X.mg as st H) {o : D} {u : V} (r1 : Rep X.K as H o u) (hP : Post X nm W (RpE X) σ as H (clearD o st) Q) : WMt X "list.clear" u [] H Q := by
  unfold clearD at hP
  cases q : lstAt st o with
  | none => rw [q] at hP; exact hP.elim
  | some ys =>
    rw [q] at hP
    obtain ⟨i, p, us, e0, e1, q0, hp, h1, q1⟩ := lst_at S q r1
    subst e0 e1
    exact mt_w mt_clear ⟨p, us, rfl, rfl, h1, post_setL S q0 hp (ys := []) rfl hP rfl⟩
theorem reverse_ok (S : StOk nm X.K X.mg as st H) {o : D} {u : V} (r1 : Rep X.K as H o u) (hP : Post X nm W (RpE X) σ as H (reverseD o st) Q) : WMt X "list.reverse" u [] H Q := by
  unfold reverseD at hP
  cases q : lstAt st o with
  | none => rw [q] at hP; exact hP.elim
  | some ys =>
    rw [q] at hP
    obtain ⟨i, p, us, e0, e1, q0, hp, h1, q1⟩ := lst_at S q r1
    subst e0 e1
    exact mt_w mt_reverse ⟨p, us, rfl, rfl, h1, post_setL S q0 hp q1.rev hP rfl⟩
theorem reps_dropLast {ys : List D} {us : List V} (r : Reps X.K as H ys us) : Reps X.K as H ys.dropLast us.dropLast := by
  rw [List.dropLast_eq_take, List.dropLast_eq_take, r.length]
  exact r.take _
theorem pop_ok (S : StOk nm X.K X.mg as st H) {o : D} {u : V} (r1 : Rep X.K as H o u) (hP : Post X nm W (RpE X) σ as H (popD o st) Q) : WMt X "list.pop" u [] H Q := by
  unfold popD at hP
  cases q : lstAt st o with
  | none => rw [q] at hP; exact hP.elim
  | some ys =>
    rw [q] at hP
    obtain ⟨i, p, us, e0, e1, q0, hp, h1, q1⟩ := lst_at S q r1
    subst e0 e1
    cases q2 : ys[ys.length - 1]? with
    | none => simp only [q2] at hP; exact hP.elim
    | some y =>
      simp only [q2] at hP
      obtain ⟨w, g1, g2⟩ := q1.get q2
      exact mt_w mt_pop ⟨p, us, w, rfl, rfl, h1, by rw [q1.length]; exact g1, post_setL S q0 hp (reps_dropLast q1) hP g2⟩
theorem pop0_ok (S : StOk nm X.K X.mg as st H) {o : D} {u : V} (r1 : Rep X.K as H o u) (hP : Post X nm W (RpE X) σ as H (pop0D o st) Q) : WMt X "list.pop" u [.int 0] H Q := by
  unfold pop0D at hP
  cases q : lstAt st o with
  | none => rw [q] at hP; exact hP.elim
  | some ys =>
    rw [q] at hP
    obtain ⟨i, p, us, e0, e1, q0, hp, h1, q1⟩ := lst_at S q r1
    subst e0 e1
    cases ys with
    | nil => exact hP.elim
    | cons y ys =>
      obtain ⟨w, ws, e, r1, r2⟩ := q1.inv
      subst e
      refine mt_w mt_popAt ⟨p, w :: ws, 0, 0, w, rfl, rfl, h1, by decide, by decide, ?_, rfl, ?_⟩
      · unfold seqIndex?
        simp
      · rw [List.eraseIdx_zero]
        exact post_setL S q0 hp r2 hP r1
theorem extend_ok (S : StOk nm X.K X.mg as st H) {o x : D} {u v : V} (r1 : Rep X.K as H o u) (r2 : Rep X.K as H x v) (hP : Post X nm W (RpE X) σ as H (extendD o x st) Q) : WMt X "list.extend" u [v] H Q := by
  unfold extendD at hP
  split at hP
  · rename_i ys zs q qz
    obtain ⟨i, p, us, e0, e1, q0, hp, h1, q1⟩ := lst_at S q r1
    obtain ⟨j, p2, us2, e2, e3, q2, hp2, h2, q3⟩ := lst_at S qz r2
    subst e0 e1 e3
    split at hP
    · rename_i hl
      exact mt_w mt_extend ⟨p, p2, us, us2, rfl, rfl, h1, h2, by rw [q1.length, q3.length]; exact lim_le hl, post_setL S q0 hp (q1.app q3) hP rfl⟩
    · exact hP.elim
  · exact hP.elim
theorem get_py : ∀ (ys : List T) (k : Nat), (toPys ys)[k]? = ys[k]?.map toPy
  | [], k => by simp [toPys]
  | y :: ys, 0 => by simp [toPys]
  | y :: ys, k + 1 => by simp [toPys, get_py ys k]
theorem index_ok (hu : X.A.units + 65 < cLine) (S : StOk nm X.K X.mg as st H) {o x : D} {u v : V} (r1 : Rep X.K as H o u) (r2 : Rep X.K as H x v) (hP : Post X nm W (RpE X) σ as H (indexD o x st) Q) : WMt X "list.index" u [v] H Q := by
  unfold indexD at hP
  cases q : tree deep st x with
  | none => rw [q] at hP; exact hP.elim
  | some t =>
    cases q2 : tree deep st o with
    | none => rw [q, q2] at hP; exact hP.elim
    | some t2 =>
      rw [q, q2] at hP
      cases t2 with
      | lst ys =>
        cases q3 : ys.findIdx? (fun y => T.eqv y t) with
        | none => simp only [q3] at hP; exact hP.elim
        | some k =>
          simp only [q3] at hP
          obtain ⟨a1, a2⟩ := shaped_tree S q r2
          obtain ⟨b1, b2⟩ := shaped_tree S q2 r1
          rw [toPy] at b1 b2
          obtain ⟨hk, hk2, hk3⟩ := List.findIdx?_eq_some_iff_getElem.mp q3
          have hu2 : ∃ a, u = .ref a := by cases b1; exact ⟨_, rfl⟩
          obtain ⟨a, ea⟩ := hu2
          subst ea
          refine mt_w (mt_indexD hu) ⟨a, v, toPy t, toPys ys, k, toPy ys[k], rfl, rfl, b1, a1, b2, a2, ?_, by rw [eqv_py]; exact hk2, fun m z hm hz => ?_, hP.val S rfl⟩
          · rw [get_py, List.getElem?_eq_getElem hk]; rfl
          · have hm2 : m < ys.length := Nat.lt_trans hm hk
            rw [get_py, List.getElem?_eq_getElem hm2] at hz
            cases hz
            rw [eqv_py]
            exact Bool.eq_false_iff.mpr (hk3 m hm)
      | _ => exact hP.elim
end
end Pu
end

section
set_option Elab.async false
set_option linter.all false
set_option maxRecDepth 100000
set_option maxHeartbeats 4000000
namespace Pu
open PySem PySem.Spec L2
variable [tb : Tb]

/-! what is known of the program -/
def SpQ (nm : List Str) (K : PySem.W.Frag) (mg : Str → Option Value) (n : Nat) (g : List SV → Store → R D) : Sp := fun vs H Q E =>
  ∃ (as : List Addr) (st : Store) (xs : List SV), xs.length = n ∧ StOk nm K mg as st H ∧ SVReps nm K mg as H xs vs ∧ match g xs st with
    | .ok d st' => ∀ as' H' v, Ev as H as' H' → StOk nm K mg as' st' H' → Rep K as' H' d v → Q v H'
    | .ex e st' => ∀ as' H' cls d, Ev as H as' H' → StOk nm K mg as' st' H' → ExF nm K mg as' H' e cls d → E cls d H'
    | .bad => False
/-- a def that may be called with n things: those that are left out -/
structure BindQ (K : PySem.W.Frag) (fd : FuncData) (ps : List Str) (g : List SV → Store → R D) (n : Nat) (ds : List Value) (dvs : List V) (dx : List D) : Prop where
  l : n + dx.length = ps.length
  b : Binds K fd ps ds
  v : Vals dvs ds
  r : ∀ as H, Reps K as H dx dvs
  g : ∀ (xs : List SV) (st : Store), xs.length = n → g xs st = g (xs ++ dx.map SV.d) st
structure Callee (pg : Program) (w : World) (K : PySem.W.Frag) (mg : Str → Option Value) (base : Heap) (nm : List Str) (lvl : Nat) (f : Addr) (g : List SV → Store → R D) : Prop where
  ex : ∃ fd ps, PySem.W.keepIn K (.ref f) = true ∧ FnOk pg w K mg base (L2.CX pg w) lvl f fd ps (SpQ nm K mg ps.length g) ∧
    ∀ n, (∃ (xs : List SV) (st : Store), xs.length = n ∧ g xs st ≠ .bad) → ∃ ds dvs dx, BindQ K fd ps g n ds dvs dx
structure FactsM (C : TC) (P : Prog) (call : Nat → List SV → Store → R D) (lvl : Nat) (pg : Program) (w : World) (K : PySem.W.Frag) (mg : Str → Option Value) (base : Heap) : Prop where
  fn : ∀ x k, C.gl.lookup x = some (.fn k) → ∃ f, mg x = some (.ref f) ∧ Callee pg w K mg base C.nm lvl f (call k)
  free : ∀ x, C.gl.lookup x = some .free → mg x = none
  con : ∀ x k d, C.gl.lookup x = some (.con k) → P.con.lookup k = some d → ∃ v u, mg x = some u ∧ RelV v u ∧ ∀ as H, Rep K as H d v
  cls : ∀ x c, C.gl.lookup x = some (.cls c) → C.nm[c]? = some x ∧ ∃ f Cd fI, P.init.lookup c = some f ∧ mg x = some (.ref Cd) ∧ Mk K Cd fI ∧ Cls K Cd ∧ Callee pg w K mg base C.nm lvl fI (call f)
  fld : ∀ c f x y Cd, P.isFld c f = true → C.nm[c]? = some x → C.nm[f]? = some y → mg x = some (.ref Cd) → NoAttr K Cd y
  meth : ∀ c m f x y Cd, P.meth.lookup (c, m) = some f → C.nm[c]? = some x → C.nm[m]? = some y → mg x = some (.ref Cd) → ∃ fM, Meth K Cd y fM ∧ Callee pg w K mg base C.nm lvl fM (call f)
abbrev Facts (C : TC) (P : Prog) (call : Nat → List SV → Store → R D) (lvl : Nat) (X : Cx) : Prop := FactsM C P call lvl X.prog X.w X.K X.mg X.base
/-- the exceptions' classes, known -/
structure ExcF (C : TC) (P : Prog) (K : PySem.W.Frag) (mg : Str → Option Value) : Prop where
  gl : ∀ x c, C.gl.lookup x = some (.exc c) → C.nm[c]? = some x ∧ c ∈ tb.xc ∧ ∃ Cd, mg x = some (.ref Cd)
  of : ∀ c ∈ tb.xc, ∃ x, C.gl.lookup x = some (.exc c)
  made : ∀ x c cs Cd, C.gl.lookup x = some (.exc c) → P.exc.lookup c = some (cs, []) → mg x = some (.ref Cd) → PySem.W.excIn K Cd He.veBase "ValueError.__new__" = true ∧ PySem.W.keepIn K (.ref Cd) = true ∧ PySem.W.subIn K (.ref Cd) (.type "BaseException") = some true ∧ PySem.W.typeIn K (.ref Cd) = some (.type "type")
  exm : ∀ x c x2 c2 Cd Cd2, C.gl.lookup x = some (.exc c) → C.gl.lookup x2 = some (.exc c2) → mg x = some (.ref Cd) → mg x2 = some (.ref Cd2) → PySem.W.exmOne K (.ref Cd) (.ref Cd2) = some (P.isSub c c2)
structure Hy (C : TC) (P : Prog) (call : Nat → List SV → Store → R D) (lvl : Nat) (X : Cx) (W : WX) : Prop where
  N : X.N = C.N
  nd : X.N.Nodup
  calm : C.calm = true → X.calm = true
  tk : Takes X W
  hr : C.calm = true → Room (lvl + 1) X.A
  un : X.A.units + 100 < cLine
  fx : Facts C P call lvl X
  ef : ExcF C P X.K X.mg
  inj : C.nm.Nodup
  xok : C.xok = false
section
variable (X : Cx) (nm : List Str) (W : WX) (P : Prog) (call : Nat → List SV → Store → R D)
def XE (l : E) (e : Expr) : Prop := ∀ as sl st σ H Q, Sat X nm as sl st σ H → Post X nm W (RpE X) σ as H (evE P call l sl st) Q → Wp X e σ H Q
def evT (l : E) (sl : Slots) (st : Store) : R Bool := (evE P call l sl st).bind fun x st => R.ofO (truth st x) st
def XT (l : E) (e : Expr) : Prop := ∀ as sl st σ H Q, Sat X nm as sl st σ H → Post X nm W RpB σ as H (evT P call l sl st) Q → WpT X e σ H Q
def XA (ls : List E) (es : List Expr) : Prop := ∀ as sl st σ H Q, Sat X nm as sl st σ H → Post X nm W (RpA X) σ as H (evEs P call ls sl st) Q → WpA X es σ H Q
end
def SelfOk (C : TC) (P : Prog) (call : Nat → List SV → Store → R D) (lvl : Nat) (self : Scope → Expr → E) : Prop :=
  ∀ X W, Hy C P call lvl X W → ∀ e, XE X C.nm W P call (self X.env.scope e) e ∧ XT X C.nm W P call (self X.env.scope e) e
section
variable {C : TC} {P : Prog} {call : Nat → List SV → Store → R D} {lvl : Nat} {X : Cx} {W : WX} {nm : List Str} {as : List Addr} {H : Hp} {st : Store} {sl : Slots} {σ : L2.St}
theorem Hy.u (h : Hy C P call lvl X W) : X.A.units + 100 < cLine := h.un
/-- a value's truth -/
theorem tru_at (S : StOk nm X.K X.mg as st H) {d : D} {v : V} {b : Bool} (h : truth st d = some b) (r : Rep X.K as H d v) : TruV X.K v H b := by
  have gen : (lstAt st d).map (fun xs => !xs.isEmpty) = some b → TruV X.K v H b := by
    intro h
    cases q : lstAt st d with
    | none => rw [q] at h; cases h
    | some xs =>
      rw [q] at h
      cases h
      obtain ⟨i, p, us, _, e, _, _, h1, rs⟩ := lst_at S q r
      subst e
      refine .inl ⟨us, .inl (.inl h1), ?_⟩
      have := rs.length
      cases xs <;> cases us <;> simp at this ⊢
  cases d with
  | non => cases h; cases r; exact rfl
  | bl x => cases h; cases r; exact rfl
  | int x => cases h; cases r; exact rfl
  | str s =>
    obtain ⟨e, _⟩ := (show v = .str (sOf s) ∧ _ from r)
    subst e
    replace h : (if s.length ≤ lim then some (!s.isEmpty) else none) = some b := h
    by_cases hl : s.length ≤ lim
    · rw [if_pos hl] at h
      cases h
      refine ⟨by rw [sOf_len]; exact lim_le hl, ?_⟩
      rw [sOf_len]
      cases s with
      | nil => rfl
      | cons c s =>
        show true = _
        rw [List.length_cons]
        symm
        rw [bne_iff_ne]
        omega
    · rw [if_neg hl] at h; cases h
  | _ => exact gen h
theorem xt_plain {l : E} {e : Expr} (h : XE X nm W P call l e) (he : ∀ whole, isTrue e X.env whole = (do let v ← whole; standAt e.pos; holding [v] (truthy v))) : XT X nm W P call l e := fun as sl st σ H Q S hP => by
  refine wp_pt (pt_truth pe_wp he) (h as sl st σ H _ S (Post.seq hP fun x st1 as1 H1 v e1 S1 r1 hP1 => ?_))
  cases q : truth st1 x with
  | none => rw [q] at hP1; exact hP1.elim
  | some b => rw [q] at hP1; exact ⟨b, tru_at S1 q r1, hP1.val S1 rfl⟩
theorem xe_bad {e : Expr} : XE X nm W P call .bad e ∧ XT X nm W P call .bad e := ⟨fun as sl st σ H Q S hP => (show False from hP).elim, fun as sl st σ H Q S hP => (show False from hP).elim⟩
theorem xa_nil : XA X nm W P call [] [] := fun as sl st σ H Q S hP => wp_pa pa_nil (hP.val S.st rfl)
theorem star_ok {e : Expr} (h : notStar e = true) (es : List Expr) (env : Env) : starEach (e :: es) env = (false, eval e env) :: starEach es env := by
  cases e <;> first | rfl | cases h
theorem any_ok (pos : Pos) (env : Env) : ∀ {es : List Expr}, es.all notStar = true → (backTo pos (starEach es env)).any (·.1) = false
  | [], _ => rfl
  | e :: es, h => by
    rw [List.all_cons, Bool.and_eq_true] at h
    rw [star_ok h.1]
    show (false || (backTo pos (starEach es env)).any (·.1)) = false
    rw [any_ok pos env h.2]
    rfl
theorem few_ok (pos : Pos) (env : Env) : ∀ {es : List Expr}, es.all notStar = true → (backTo pos (starEach es env)).all (fun x => !x.1) = true
  | [], _ => rfl
  | e :: es, h => by
    rw [List.all_cons, Bool.and_eq_true] at h
    rw [star_ok h.1]
    show (true && (backTo pos (starEach es env)).all (fun x => !x.1)) = true
    rw [few_ok pos env h.2]
    rfl
theorem xa_cons {l : E} {e : Expr} {ls : List E} {es : List Expr} (hs : notStar e = true) (h : XE X nm W P call l e) (hr : XA X nm W P call ls es) : XA X nm W P call (l :: ls) (e :: es) := fun as sl st σ H Q S hP => by
  refine wp_pa (pa_cons pe_wp pa_wp (star_ok hs es X.env)) ?_
  refine h as sl st σ H _ S (Post.seq hP fun x st1 as1 H1 v e1 S1 r1 hP1 => ?_)
  refine hr as1 sl st1 σ H1 _ (S.ev e1 S1) (Post.seq hP1 fun xs st2 as2 H2 vs e2 S2 r2 hP2 => ?_)
  exact hP2.val S2 (Reps.cons (Rep.ev S1.owns e2 _ _ r1) r2)
theorem xa_map {f : Expr → E} : ∀ {es : List Expr}, es.all notStar = true → (∀ e ∈ es, XE X nm W P call (f e) e) → XA X nm W P call (es.map f) es
  | [], _, _ => xa_nil
  | e :: es, h, k => by
    rw [List.all_cons, Bool.and_eq_true] at h
    exact xa_cons h.1 (k e List.mem_cons_self) (xa_map h.2 fun e he => k e (List.mem_cons_of_mem _ he))
/-! names -/
theorem idx_at {l : List Str} {x : Str} {i : Nat} (h : idx l x = some i) : l[i]? = some x := by
  unfold idx at h
  obtain ⟨hi, h2, _⟩ := List.findIdx?_eq_some_iff_getElem.mp h
  rw [List.getElem?_eq_getElem hi, eq_of_beq h2]
theorem isVis_ok {sc : Scope} {x : Str} (h : isVis sc x = true) : Vis sc x := by
  unfold isVis at h
  unfold Vis
  split at h
  · exact .inl (by assumption)
  · exact .inr (.inl (by assumption))
  · exact .inr (.inr (by assumption))
  · cases h
theorem isLoc_ok {sc : Scope} {x : Str} (h : isLoc sc x = true) : L2.Loc sc x := by
  unfold isLoc at h
  unfold L2.Loc
  split at h
  · exact .inl (by assumption)
  · exact .inr (by assumption)
  · cases h
theorem isGl_ok {x : Str} (h : isGl X.env.scope x = true) : Gl X x := by
  unfold isGl at h
  split at h
  · rename_i q; exact q
  · cases h
theorem okNm_ok {x : Str} (h : okNm x = true) : (x == ("__debug__" : Str)) = false ∧ (x == ("__classdict__" : Str)) = false ∧ x ≠ ("__name__" : Str) := by
  unfold okNm at h
  simp only [Bool.and_eq_true, Bool.not_eq_true'] at h
  exact ⟨h.1.1, h.1.2, beq_eq_false_iff_ne.mp h.2⟩
theorem slot_ok (hy : Hy C P call lvl X W) {x : Str} {i : Nat} (h : slot C X.env.scope x = some i) : X.N[i]? = some x ∧ Vis X.env.scope x ∧ okNm x = true := by
  unfold slot at h
  split at h
  · rename_i q
    rw [Bool.and_eq_true] at q
    exact ⟨by rw [hy.N]; exact idx_at h, isVis_ok q.1, q.2⟩
  · cases h
theorem slotL_ok (hy : Hy C P call lvl X W) {x : Str} {i : Nat} (h : slotL C X.env.scope x = some i) : X.N[i]? = some x ∧ L2.Loc X.env.scope x ∧ okNm x = true := by
  unfold slotL at h
  split at h
  · rename_i q
    rw [Bool.and_eq_true] at q
    exact ⟨by rw [hy.N]; exact idx_at h, isLoc_ok q.1, q.2⟩
  · cases h
theorem glob_ok {x : Str} {g : G} (h : glob C X.env.scope x = some g) : Gl X x ∧ okNm x = true ∧ C.gl.lookup x = some g := by
  unfold glob at h
  split at h
  · rename_i q
    rw [Bool.and_eq_true] at q
    exact ⟨isGl_ok q.1, q.2, h⟩
  · cases h
theorem sOf_txt (s : Str) : sOf (txt s) = s := by
  cases s
  simp [sOf, txt]
end
end Pu
end

section
set_option Elab.async false
set_option linter.all false
set_option maxRecDepth 100000
set_option maxHeartbeats 4000000
namespace Pu
open PySem PySem.Spec L2
variable [tb : Tb]
section
variable {C : TC} {P : Prog} {call : Nat → List SV → Store → R D} {lvl : Nat} {X : Cx} {W : WX} {nm : List Str} {as : List Addr} {H : Hp} {st : Store} {sl : Slots} {σ : L2.St}
theorem xe_one {op : BoolOp} {l : E} {a : Expr} {pos : Pos} (h : XE X nm W P call l a ∧ XT X nm W P call l a) : XE X nm W P call l (.BoolOp op [a] pos) ∧ XT X nm W P call l (.BoolOp op [a] pos) :=
  ⟨fun as sl st σ H Q S hP => wp_pe (pe_one pe_wp) (h.1 as sl st σ H Q S hP), fun as sl st σ H Q S hP => by
    cases op with
    | And => exact WpW.t (wp_pw (pw_and1 pt_wp) (h.2 as sl st σ H Q S hP))
    | Or => exact WpW.t (wp_pw (pw_or1 pt_wp) (h.2 as sl st σ H Q S hP))⟩
theorem wpw_of {op : BoolOp} {vs : List Expr} {pos : Pos} {Q : Bool → Hp → Prop} (h : WpT X (.BoolOp op vs pos) σ H Q) : WpW X (.BoolOp op vs pos) σ H Q := fun _ pins s I => h pins s I
theorem bind_tru {x : D} {m : Bool → Store → R D} {Q : VK} (hP : Post X nm W (RpE X) σ as H ((R.ofO (truth st x) st).bind m) Q) : ∃ b, truth st x = some b ∧ Post X nm W (RpE X) σ as H (m b st) Q := by
  cases q : truth st x with
  | none => rw [q] at hP; exact hP.elim
  | some b => rw [q] at hP; exact ⟨b, rfl, hP⟩
theorem xe_and {l l2 : E} {a b : Expr} {rest : List Expr} {pos : Pos} (h : XE X nm W P call l a ∧ XT X nm W P call l a) (h2 : XE X nm W P call l2 (.BoolOp .And (b :: rest) pos) ∧ XT X nm W P call l2 (.BoolOp .And (b :: rest) pos)) :
    XE X nm W P call (.and l l2) (.BoolOp .And (a :: b :: rest) pos) ∧ XT X nm W P call (.and l l2) (.BoolOp .And (a :: b :: rest) pos) := by
  refine ⟨fun as sl st σ H Q S hP => ?_, fun as sl st σ H Q S hP => ?_⟩
  · refine wp_pe (pe_andT pe_wp pe_wp) (h.1 as sl st σ H _ S (Post.seq hP fun x st1 as1 H1 v e1 S1 r1 hP1 => ?_))
    obtain ⟨k, q, hP2⟩ := bind_tru hP1
    refine ⟨k, tru_at S1 q r1, ?_⟩
    cases k with
    | true => exact h2.1 as1 sl st1 σ H1 Q (S.ev e1 S1) hP2
    | false => exact hP2.val S1 r1
  · refine WpW.t (wp_pw (pw_and pt_wp pw_wp) (h.2 as sl st σ H _ S ?_))
    have hP' : Post X nm W RpB σ as H ((evT P call l sl st).bind fun k st => if k = true then evT P call l2 sl st else .ok false st) Q := by
      have e : evT P call (.and l l2) sl st = (evT P call l sl st).bind fun k st => if k = true then evT P call l2 sl st else .ok false st := by
        unfold evT
        rw [evE, R.bind_assoc, R.bind_assoc]
        congr 1
        funext x st1
        cases q : truth st1 x with
        | none => rfl
        | some k => cases k <;> simp [R.ofO, q]
      rw [← e]
      exact hP
    refine Post.seq hP' fun k st1 as1 H1 v e1 S1 r1 hP1 => ?_
    have e : v = k := r1
    subst e
    cases v with
    | true => exact wpw_of (h2.2 as1 sl st1 σ H1 Q (S.ev e1 S1) hP1)
    | false => exact hP1.val S1 rfl
theorem xe_or {l l2 : E} {a b : Expr} {rest : List Expr} {pos : Pos} (h : XE X nm W P call l a ∧ XT X nm W P call l a) (h2 : XE X nm W P call l2 (.BoolOp .Or (b :: rest) pos) ∧ XT X nm W P call l2 (.BoolOp .Or (b :: rest) pos)) :
    XE X nm W P call (.or l l2) (.BoolOp .Or (a :: b :: rest) pos) ∧ XT X nm W P call (.or l l2) (.BoolOp .Or (a :: b :: rest) pos) := by
  refine ⟨fun as sl st σ H Q S hP => ?_, fun as sl st σ H Q S hP => ?_⟩
  · refine wp_pe (pe_orT pe_wp pe_wp) (h.1 as sl st σ H _ S (Post.seq hP fun x st1 as1 H1 v e1 S1 r1 hP1 => ?_))
    obtain ⟨k, q, hP2⟩ := bind_tru hP1
    refine ⟨k, tru_at S1 q r1, ?_⟩
    cases k with
    | false => exact h2.1 as1 sl st1 σ H1 Q (S.ev e1 S1) hP2
    | true => exact hP2.val S1 r1
  · refine WpW.t (wp_pw (pw_or pt_wp pw_wp) (h.2 as sl st σ H _ S ?_))
    have hP' : Post X nm W RpB σ as H ((evT P call l sl st).bind fun k st => if k = true then .ok true st else evT P call l2 sl st) Q := by
      have e : evT P call (.or l l2) sl st = (evT P call l sl st).bind fun k st => if k = true then .ok true st else evT P call l2 sl st := by
        unfold evT
        rw [evE, R.bind_assoc, R.bind_assoc]
        congr 1
        funext x st1
        cases q : truth st1 x with
        | none => rfl
        | some k => cases k <;> simp [R.ofO, q]
      rw [← e]
      exact hP
    refine Post.seq hP' fun k st1 as1 H1 v e1 S1 r1 hP1 => ?_
    have e : v = k := r1
    subst e
    cases v with
    | false => exact wpw_of (h2.2 as1 sl st1 σ H1 Q (S.ev e1 S1) hP1)
    | true => exact hP1.val S1 rfl
theorem xe_not {l : E} {a : Expr} {pos : Pos} (h : XE X nm W P call l a ∧ XT X nm W P call l a) : XE X nm W P call (.not l) (.UnaryOp .Not a pos) ∧ XT X nm W P call (.not l) (.UnaryOp .Not a pos) := by
  refine ⟨fun as sl st σ H Q S hP => ?_, fun as sl st σ H Q S hP => ?_⟩
  · refine wp_pe (pe_notT pe_wp) (h.1 as sl st σ H _ S (Post.seq hP fun x st1 as1 H1 v e1 S1 r1 hP1 => ?_))
    cases q : truth st1 x with
    | none => rw [q] at hP1; exact hP1.elim
    | some k => rw [q] at hP1; exact ⟨k, tru_at S1 q r1, hP1.val S1 rfl⟩
  · refine wp_pt (pt_not pt_wp) (h.2 as sl st σ H _ S ?_)
    have hP' : Post X nm W RpB σ as H ((evT P call l sl st).bind fun k st => .ok (!k) st) Q := by
      have e : evT P call (.not l) sl st = (evT P call l sl st).bind fun k st => .ok (!k) st := by
        unfold evT
        rw [evE, R.bind_assoc, R.bind_assoc]
        congr 1
        funext x st1
        cases q : truth st1 x with
        | none => rfl
        | some k => simp [R.ofO, truth]
      rw [← e]
      exact hP
    exact Post.seq hP' fun k st1 as1 H1 v e1 S1 r1 hP1 => hP1.val S1 (by have e : v = k := r1; rw [e])
theorem xe_ife {lt la lb : E} {t a b : Expr} {pos : Pos} (ht : XT X nm W P call lt t) (ha : XE X nm W P call la a ∧ XT X nm W P call la a) (hb : XE X nm W P call lb b ∧ XT X nm W P call lb b) :
    XE X nm W P call (.ife lt la lb) (.IfExp t a b pos) ∧ XT X nm W P call (.ife lt la lb) (.IfExp t a b pos) := by
  have e : ∀ sl st, evE P call (.ife lt la lb) sl st = (evT P call lt sl st).bind fun k st => if k = true then evE P call la sl st else evE P call lb sl st := by
    intro sl st
    unfold evT
    rw [evE, R.bind_assoc]
  refine ⟨fun as sl st σ H Q S hP => ?_, fun as sl st σ H Q S hP => ?_⟩
  · rw [e] at hP
    refine wp_pe (pe_ifExp pt_wp pe_wp pe_wp) (ht as sl st σ H _ S (Post.seq hP fun k st1 as1 H1 v e1 S1 r1 hP1 => ?_))
    have e : v = k := r1
    subst e
    cases v with
    | true => exact ha.1 as1 sl st1 σ H1 Q (S.ev e1 S1) hP1
    | false => exact hb.1 as1 sl st1 σ H1 Q (S.ev e1 S1) hP1
  · have hP' : Post X nm W RpB σ as H ((evT P call lt sl st).bind fun k st => if k = true then evT P call la sl st else evT P call lb sl st) Q := by
      have e2 : evT P call (.ife lt la lb) sl st = (evT P call lt sl st).bind fun k st => if k = true then evT P call la sl st else evT P call lb sl st := by
        rw [evT, e, R.bind_assoc]
        congr 1
        funext k st1
        cases k <;> rfl
      rw [← e2]
      exact hP
    intro pins s I
    have h0 := ht as sl st σ H (fun k H1 => WpT X (if k = true then a else b) σ H1 Q) S (Post.seq hP' fun k st1 as1 H1 v e1 S1 r1 hP1 => by
      have e : v = k := r1
      subst e
      cases v with
      | true => exact ha.2 as1 sl st1 σ H1 Q (S.ev e1 S1) hP1
      | false => exact hb.2 as1 sl st1 σ H1 Q (S.ev e1 S1) hP1) pins s I
    unfold PySem.isTrue
    refine wpAny_bind (thn h0 fun k s1 ⟨H1, I1, q1⟩ => ?_)
    cases k with
    | true => exact q1 pins s1 I1
    | false => exact q1 pins s1 I1
theorem xe_bin {o : Bop} {la lb : E} {a b : Expr} {pos : Pos} (ha : XE X nm W P call la a) (hb : XE X nm W P call lb b) : XE X nm W P call (.bin o la lb) (.BinOp a (opB o) b pos) := fun as sl st σ H Q S hP => by
  refine wp_pe (pe_op wop_r pe_wp pe_wp) (ha as sl st σ H _ S (Post.seq hP fun x st1 as1 H1 v e1 S1 r1 hP1 => ?_))
  refine hb as1 sl st1 σ H1 _ (S.ev e1 S1) (Post.seq hP1 fun y st2 as2 H2 u e2 S2 r2 hP2 => ?_)
  exact bin_ok S2 o (Rep.ev S1.owns e2 _ _ r1) r2 hP2
theorem xe_cmp (hu : X.A.units + 65 < cLine) {o : Cop} {la lb : E} {a b : Expr} {pos : Pos} (ha : XE X nm W P call la a) (hb : XE X nm W P call lb b) (hm : behindInMarks (opC o) b = false) :
    XE X nm W P call (.cmp o la lb) (.Compare a [opC o] [b] pos) ∧ XT X nm W P call (.cmp o la lb) (.Compare a [opC o] [b] pos) := by
  have gen : ∀ as sl st σ H (Q : VK), Sat X nm as sl st σ H → Post X nm W (RpE X) σ as H (evE P call (.cmp o la lb) sl st) Q → tOp (WOp X (compareOp (opC o))) (Wp X a) (Wp X b) σ H Q := fun as sl st σ H Q S hP => by
    refine ha as sl st σ H _ S (Post.seq hP fun x st1 as1 H1 v e1 S1 r1 hP1 => ?_)
    refine hb as1 sl st1 σ H1 _ (S.ev e1 S1) (Post.seq hP1 fun y st2 as2 H2 u e2 S2 r2 hP2 => ?_)
    exact cmp_ok hu S2 o (Rep.ev S1.owns e2 _ _ r1) r2 hP2
  refine ⟨fun as sl st σ H Q S hP => wp_pe (pe_cmpR wop_r pe_wp pe_wp hm) (gen as sl st σ H Q S hP), fun as sl st σ H Q S hP => wp_pt (pt_cmpR wop_r pe_wp pe_wp hm) (gen as sl st σ H _ S ?_)⟩
  have hP' : Post X nm W RpB σ as H ((evE P call (.cmp o la lb) sl st).bind fun x st => R.ofO (truth st x) st) Q := hP
  have tb : ∀ x st1, evE P call (.cmp o la lb) sl st = .ok x st1 → ∃ b, x = .bl b := by
    intro x st1 h
    rw [evE] at h
    cases q : evE P call la sl st with
    | ok y s =>
      rw [q] at h
      cases q2 : evE P call lb sl s with
      | ok z s2 =>
        simp only [R.ok_bind, q2] at h
        cases q3 : cmpD o s2 y z with
        | none => rw [q3] at h; cases h
        | some k => rw [q3] at h; cases h; exact ⟨k, rfl⟩
      | ex e s2 => simp [q2] at h
      | bad => simp [q2] at h
    | ex e s => rw [q] at h; cases h
    | bad => rw [q] at h; cases h
  cases q : evE P call (.cmp o la lb) sl st with
  | ok x st1 =>
    obtain ⟨k, e⟩ := tb x st1 q
    subst e
    rw [q] at hP'
    exact fun as' H' v e1 S1 r1 => ⟨k, r1, hP' as' H' k e1 S1 rfl⟩
  | ex e s => rw [q] at hP'; exact hP'
  | bad => rw [q] at hP'; exact hP'
end
end Pu
end

section
set_option Elab.async false
set_option linter.all false
set_option maxRecDepth 100000
set_option maxHeartbeats 4000000
namespace Pu
open PySem PySem.Spec L2
variable [tb : Tb]
section
variable {C : TC} {P : Prog} {call : Nat → List SV → Store → R D} {lvl : Nat} {X : Cx} {W : WX} {nm : List Str} {as : List Addr} {H : Hp} {st : Store} {sl : Slots} {σ : L2.St}
theorem xe_chain (hu : X.A.units + 65 < cLine) {o o' : Cop} {la lb lc : E} {a b c : Expr} {pos : Pos} (ha : XE X nm W P call la a) (hb : XE X nm W P call lb b) (hc : XE X nm W P call lc c) (hm : lastMarks [opC o, opC o'] [b, c] = false) :
    XE X nm W P call (.chain o o' la lb lc) (.Compare a [opC o, opC o'] [b, c] pos) ∧ XT X nm W P call (.chain o o' la lb lc) (.Compare a [opC o, opC o'] [b, c] pos) := by
  have gen : ∀ as sl st σ H (Q : VK), Sat X nm as sl st σ H → Post X nm W (RpE X) σ as H (evE P call (.chain o o' la lb lc) sl st) Q → tChain (WOp X (compareOp (opC o))) (WOp X (compareOp (opC o'))) (Wp X a) (Wp X b) (Wp X c) σ H Q := fun as sl st σ H Q S hP => by
    rw [evE] at hP
    refine ha as sl st σ H _ S (Post.seq hP fun x st1 as1 H1 v e1 S1 r1 hP1 => ?_)
    refine hb as1 sl st1 σ H1 _ (S.ev e1 S1) (Post.seq hP1 fun y st2 as2 H2 u e2 S2 r2 hP2 => ?_)
    refine cmp_ok (nm := nm) (W := W) (σ := σ) hu S2 o (Rep.ev S1.owns e2 _ _ r1) r2 ?_
    cases q : cmpD o st2 x y with
    | none => rw [q] at hP2; exact hP2.elim
    | some k =>
      rw [q] at hP2
      intro as3 H3 z e3 S3 r3
      refine ⟨k, r3, ?_⟩
      have hP3 := Post.ev (m := if k = true then _ else _) hP2 e3
      cases k with
      | false => exact hP3.val S3 rfl
      | true =>
        refine hc as3 sl st2 σ H3 _ (((S.ev e1 S1).ev e2 S2).ev e3 S3) (Post.seq hP3 fun w st4 as4 H4 t e4 S4 r4 hP4 => ?_)
        exact cmp_ok hu S4 o' (Rep.ev S3.owns e4 _ _ (Rep.ev S2.owns e3 _ _ r2)) r4 hP4
  refine ⟨fun as sl st σ H Q S hP => wp_pe (pe_chain wop_r wop_r pe_wp pe_wp pe_wp hm) (gen as sl st σ H Q S hP), fun as sl st σ H Q S hP => wp_pt (pt_chain wop_r wop_r pe_wp pe_wp pe_wp hm) (gen as sl st σ H _ S ?_)⟩
  have hP' : Post X nm W RpB σ as H ((evE P call (.chain o o' la lb lc) sl st).bind fun x st => R.ofO (truth st x) st) Q := hP
  have tb : ∀ x st1, evE P call (.chain o o' la lb lc) sl st = .ok x st1 → ∃ b, x = .bl b := by
    intro x st1 h
    rw [evE] at h
    cases q : evE P call la sl st with
    | ok y s =>
      rw [q] at h
      cases q2 : evE P call lb sl s with
      | ok z s2 =>
        simp only [R.ok_bind, q2] at h
        cases q3 : cmpD o s2 y z with
        | none => rw [q3] at h; cases h
        | some k =>
          rw [q3] at h
          cases k with
          | false => cases h; exact ⟨false, rfl⟩
          | true =>
            simp only [R.ofO_some, R.ok_bind, if_true] at h
            cases q4 : evE P call lc sl s2 with
            | ok w s3 =>
              simp only [q4, R.ok_bind] at h
              cases q5 : cmpD o' s3 z w with
              | none => rw [q5] at h; cases h
              | some k => rw [q5] at h; cases h; exact ⟨k, rfl⟩
            | ex e s => simp [q4] at h
            | bad => simp [q4] at h
      | ex e s2 => simp [q2] at h
      | bad => simp [q2] at h
    | ex e s => rw [q] at h; cases h
    | bad => rw [q] at h; cases h
  cases q : evE P call (.chain o o' la lb lc) sl st with
  | ok x st1 =>
    obtain ⟨k, e⟩ := tb x st1 q
    subst e
    rw [q] at hP'
    exact fun as' H' v e1 S1 r1 => ⟨k, r1, hP' as' H' k e1 S1 rfl⟩
  | ex e s => rw [q] at hP'; exact hP'
  | bad => rw [q] at hP'; exact hP'
/-! constants, names -/
theorem xe_int {i : Int} {j : Nat} {pos : Pos} : XE X nm W P call (.int i) (.Constant (.int i) j pos) := fun as sl st σ H Q S hP => wp_pe pe_int (hP.val S.st rfl)
theorem xe_bl {i : Bool} {j : Nat} {pos : Pos} : XE X nm W P call (.bl i) (.Constant (.bool i) j pos) := fun as sl st σ H Q S hP => wp_pe pe_bl (hP.val S.st rfl)
theorem xe_non {j : Nat} {pos : Pos} : XE X nm W P call .non (.Constant .none j pos) := fun as sl st σ H Q S hP => wp_pe pe_non (hP.val S.st rfl)
theorem xe_str {i : Str} {j : Nat} {pos : Pos} (h : okS (txt i) = true) : XE X nm W P call (.str (txt i)) (.Constant (.str i) j pos) := fun as sl st σ H Q S hP => wp_pe pe_str (hP.val S.st ⟨by rw [sOf_txt], h⟩)
theorem xe_negi {i : Int} {j : Nat} {p pos : Pos} : XE X nm W P call (.int (-i)) (.UnaryOp .USub (.Constant (.int i) j p) pos) := fun as sl st σ H Q S hP => wp_pe (pe_un un_neg pe_int) ⟨i, rfl, hP.val S.st rfl⟩
theorem xe_loc (hy : Hy C P call lvl X W) {x : Str} {i : Nat} {pos : Pos} (h : slot C X.env.scope x = some i) : XE X nm W P call (.loc i) (.Name x pos) := fun as sl st σ H Q S hP => by
  obtain ⟨h1, h2, h3⟩ := slot_ok hy h
  obtain ⟨n1, n2, n3⟩ := okNm_ok h3
  rw [evE] at hP
  cases q : sl[i]? with
  | none => rw [q] at hP; exact hP.elim
  | some o =>
    cases o with
    | none => rw [q] at hP; exact hP.elim
    | some v =>
      cases v with
      | x e => rw [q] at hP; exact hP.elim
      | d d =>
        rw [q] at hP
        obtain ⟨v, g1, g2⟩ := S.slo i _ q
        exact wp_pe (pe_var h1 h2 n1 n2) ⟨v, g1, hP.val S.st g2⟩
theorem xe_glo (hy : Hy C P call lvl X W) {x : Str} {k : Nat} {pos : Pos} (h : glob C X.env.scope x = some (.con k)) : XE X nm W P call (.glo k) (.Name x pos) := fun as sl st σ H Q S hP => by
  obtain ⟨h1, h2, h3⟩ := glob_ok h
  obtain ⟨n1, n2, n3⟩ := okNm_ok h2
  rw [evE] at hP
  cases q : P.con.lookup k with
  | none => rw [q] at hP; exact hP.elim
  | some d =>
    rw [q] at hP
    obtain ⟨v, u, g1, g2, g3⟩ := hy.fx.con x k d h3 q
    exact wp_pe (pe_glob h1 g1 g2 n1) (hP.val S.st (g3 as H))
/-! displays -/
theorem xe_lst {ls : List E} {es : List Expr} {pos : Pos} (h : XA X nm W P call ls es) : XE X nm W P call (.lst ls) (.List es pos) := fun as sl st σ H Q S hP => by
  rw [evE] at hP
  refine wp_pe (pe_lst pa_wp) (h as sl st σ H _ S (Post.seq hP fun xs st1 as1 H1 us e1 S1 r1 hP1 => ?_))
  split at hP1
  · rename_i hl
    exact ⟨by rw [r1.length]; exact lim_le hl, fun p hp => post_lst S1 hP1 r1 hp⟩
  · exact hP1.elim
theorem xe_tup {ls : List E} {es : List Expr} {x1} {pos : Pos} (h : XA X nm W P call ls es) : XE X nm W P call (.tup ls) (.Tuple es x1 pos) := fun as sl st σ H Q S hP => by
  rw [evE] at hP
  refine wp_pe (pe_tup pa_wp) (h as sl st σ H _ S (Post.seq hP fun xs st1 as1 H1 us e1 S1 r1 hP1 => ?_))
  split at hP1
  · rename_i hl
    exact ⟨by rw [r1.length]; exact lim_le hl, fun p hp => post_tup S1 hP1 r1 hp⟩
  · exact hP1.elim
theorem xe_dic0 {pos : Pos} : XE X nm W P call (.dic []) (.Dict [] [] pos) := fun as sl st σ H Q S hP => by
  rw [evE] at hP
  replace hP : Post X nm W (RpE X) σ as H (new (.dic []) st) Q := hP
  exact wp_pe pe_dnewK fun d hd => post_new S.st hP hd trivial fun e => ⟨_, upd_same, .inl ⟨[], rfl, rfl⟩⟩
/-! attributes -/
theorem frep_at {fs : List (Nat × D)} : ∀ {l : List (Str × V)} {f : Nat} {x : Str} {d : D}, nm.Nodup → nm[f]? = some x → FRep nm X.K as H fs l → fs.lookup f = some d → ∃ v, l.lookup x = some v ∧ Rep X.K as H d v := by
  induction fs with
  | nil => intro l f x d _ _ _ h; cases h
  | cons q fs ih =>
    intro l f x d nd hx r h
    obtain ⟨y, v, w, e, h1, h2, h3⟩ := (show ∃ x v r, l = (x, v) :: r ∧ nm[q.1]? = some x ∧ Rep X.K as H q.2 v ∧ FRep nm X.K as H fs r from r)
    subst e
    rw [List.lookup_cons]
    rw [show (q :: fs) = ((q.1, q.2) :: fs) from rfl, List.lookup_cons] at h
    by_cases hf : f = q.1
    · rw [hf] at hx h
      rw [hx] at h1
      cases h1
      simp only [beq_self_eq_true] at h ⊢
      cases h
      exact ⟨v, rfl, h2⟩
    · have hb : (f == q.1) = false := beq_eq_false_iff_ne.mpr hf
      rw [hb] at h
      have hxy : (x == y) = false := beq_eq_false_iff_ne.mpr fun e => hf (by
        rw [← e] at h1
        exact (List.getElem?_inj (List.getElem?_eq_some_iff.mp hx).1 nd).mp (hx.trans h1.symm))
      rw [hxy]
      exact ih nd hx h3 h
theorem frep_no {fs : List (Nat × D)} : ∀ {l : List (Str × V)} {f : Nat} {x : Str}, nm.Nodup → nm[f]? = some x → FRep nm X.K as H fs l → fs.lookup f = none → l.lookup x = none := by
  induction fs with
  | nil => intro l f x _ _ r _; have e : l = [] := r; subst e; rfl
  | cons q fs ih =>
    intro l f x nd hx r h
    obtain ⟨y, v, w, e, h1, h2, h3⟩ := (show ∃ x v r, l = (x, v) :: r ∧ nm[q.1]? = some x ∧ Rep X.K as H q.2 v ∧ FRep nm X.K as H fs r from r)
    subst e
    rw [List.lookup_cons]
    rw [show (q :: fs) = ((q.1, q.2) :: fs) from rfl, List.lookup_cons] at h
    by_cases hf : f = q.1
    · rw [hf] at h
      simp at h
    · have hb : (f == q.1) = false := beq_eq_false_iff_ne.mpr hf
      rw [hb] at h
      have hxy : (x == y) = false := beq_eq_false_iff_ne.mpr fun e => hf (by
        rw [← e] at h1
        exact (List.getElem?_inj (List.getElem?_eq_some_iff.mp hx).1 nd).mp (hx.trans h1.symm))
      rw [hxy]
      exact ih nd hx h3 h
theorem base_ok {o : Expr} (h : ∀ f p, o ≠ .Call (.Name "super" p) [] [] f) (m : Str) (env : Env) : attributeBase o m env (eval o env) = eval o env := by
  unfold attributeBase
  cases o with
  | Call f args kws pos =>
    cases f with
    | Name x p =>
      cases args with
      | nil =>
        cases kws with
        | nil =>
          have hx : (x != ("super" : Str)) = true := bne_iff_ne.mpr fun e => h pos p (by rw [e])
          dsimp only
          rw [hx]
          rfl
        | cons _ _ => rfl
      | cons _ _ => rfl
    | _ => rfl
  | _ => rfl
end
end Pu
end

section
set_option Elab.async false
set_option linter.all false
set_option maxRecDepth 100000
set_option maxHeartbeats 4000000
namespace Pu
open PySem PySem.Spec L2
variable [tb : Tb]
section
variable {X : Cx} {W : WX} {a b e o : Expr} {es : List Expr} {pos p apos : Pos} {k : Nat} {f C : Addr} {fd : FuncData} {ps : List Str} {x m : Str} {dvs : List V} {ds : List Value}
/-! calls -/
theorem wp_run {sp : Sp} {pins : List (Addr × Obj)} {σ : L2.St} {H : Hp} {s : Shared} {Q : VK} {us : List Value} {vs : List V} (G : FnOk X.prog X.w X.K X.mg X.base (L2.CX X.prog X.w) k f fd ps sp) (hr : Room k X.A) (hb : Binds X.K fd ps ds) (hd : Vals dvs ds) (tk : Takes X W)
    (I : Inv X pins σ H s) (r : Vals vs us) (h : sp (vs ++ dvs) H Q (WE W σ)) : wpAny (model X.prog X.w) X.A (call (.ref f) us) (EP X pins σ Q) X.xe s :=
  run_fnSD (E := fun _ => WE W σ) G hr hb hd (passAt tk σ) I r h
theorem wp_call {sp : Sp} {σ : L2.St} {H : Hp} {Q : VK} (G : FnOk X.prog X.w X.K X.mg X.base (L2.CX X.prog X.w) k f fd ps sp) (hr : Room k X.A) (hg : Gl X x) (hm : X.mg x = some (.ref f)) (hk : PySem.W.keepIn X.K (.ref f) = true) (hb : Binds X.K fd ps ds) (hd : Vals dvs ds) (tk : Takes X W)
    (h : WpA X (e :: es) σ H fun vs H1 => sp (vs ++ dvs) H1 Q (WE W σ))
    (hdb : (x == ("__debug__" : Str)) = false := by decide) (he : starEach (e :: es) X.env = (false, eval e X.env) :: starEach es X.env := by rfl) (hpl : (backTo pos (starEach es X.env)).any (·.1) = false := by rfl) :
    Wp X (.Call (.Name x p) (e :: es) [] pos) σ H Q := wp_pe (pe_callSD (E := fun σ => WE W σ) G hr hg hm hk hb hd (fun σ => passAt tk σ) pa_wp hdb he hpl) h
theorem wp_call0 {sp : Sp} {σ : L2.St} {H : Hp} {Q : VK} (G : FnOk X.prog X.w X.K X.mg X.base (L2.CX X.prog X.w) k f fd ps sp) (hr : Room k X.A) (hg : Gl X x) (hm : X.mg x = some (.ref f)) (hk : PySem.W.keepIn X.K (.ref f) = true) (hb : Binds X.K fd ps ds) (hd : Vals dvs ds) (tk : Takes X W)
    (h : sp dvs H Q (WE W σ)) (hdb : (x == ("__debug__" : Str)) = false := by decide) : Wp X (.Call (.Name x p) [] [] pos) σ H Q := fun pins s I =>
  wpAny_Call_Name_kw (ld_glob I hg hm (PySem.W.callWith_K0 I.kIn hk (wp_run (us := []) (vs := []) G hr hb hd tk I .nil h)) hdb)
theorem wp_meth {sp : Sp} {pl : Sem Bool} {σ : L2.St} {H : Hp} {Q : VK} (c : Cls X.K C) (hm : Meth X.K C m f) (G : FnOk X.prog X.w X.K X.mg X.base (L2.CX X.prog X.w) k f fd ps sp) (hr : Room k X.A) (hb : Binds X.K fd ps ds) (hd : Vals dvs ds) (tk : Takes X W)
    (h : Wp X o σ H fun x H1 => ∃ a dx fs, x = .ref a ∧ H1 a = some (.ins C dx fs) ∧ fs.lookup m = none ∧ WpA X (e :: es) σ H1 fun vs H2 => sp (x :: (vs ++ dvs)) H2 Q (WE W σ))
    (hst : starEach (e :: es) X.env = (false, eval e X.env) :: starEach es X.env := by rfl) (hpl : (backTo pos (starEach es X.env)).any (·.1) = false := by rfl)
    (ht : eval (.Call (.Attribute o m apos) (e :: es) [] pos) X.env = (do let ov ← eval o X.env; standAt apos.atName; let (f, first) ← holding [ov] (getMethod ov m pl); callWith pos f first (backTo pos (starEach (e :: es) X.env)) (backToKw pos (keywordEach [] X.env))) := by rfl) :
    Wp X (.Call (.Attribute o m apos) (e :: es) [] pos) σ H Q := fun pins s I => by
  refine PySem.W.methodCall_KW (pl := pl) (thn (h pins s I) fun u s1 hq => ?_) ht
  obtain ⟨x, H1, I1, rx, a, dx, fs, rfl, ea, l, q⟩ := hq
  obtain rfl : u = Value.ref a := rx
  refine getmeth_ok I1 ea c hm l (PySem.W.callWith_K (first := [.ref a]) (h₀ := X.base) I1.ok.mod.kin hm.kp (thn (q pos pins s1 I1) fun us s2 hq2 => ?_) hst hpl)
  obtain ⟨vs, H2, I2, r, q2⟩ := hq2
  exact ⟨I2.kIn, wp_run (vs := .ref a :: vs) (us := .ref a :: us) G hr hb hd tk I2 (.cons rfl r) q2⟩
theorem wp_meth0 {sp : Sp} {pl : Sem Bool} {σ : L2.St} {H : Hp} {Q : VK} (c : Cls X.K C) (hm : Meth X.K C m f) (G : FnOk X.prog X.w X.K X.mg X.base (L2.CX X.prog X.w) k f fd ps sp) (hr : Room k X.A) (hb : Binds X.K fd ps ds) (hd : Vals dvs ds) (tk : Takes X W)
    (h : Wp X o σ H fun x H1 => ∃ a dx fs, x = .ref a ∧ H1 a = some (.ins C dx fs) ∧ fs.lookup m = none ∧ sp (x :: dvs) H1 Q (WE W σ))
    (ht : eval (.Call (.Attribute o m apos) [] [] pos) X.env = (do let ov ← eval o X.env; standAt apos.atName; let (f, first) ← holding [ov] (getMethod ov m pl); callWith pos f first (backTo pos (starEach [] X.env)) (backToKw pos (keywordEach [] X.env))) := by rfl) :
    Wp X (.Call (.Attribute o m apos) [] [] pos) σ H Q := fun pins s I => by
  refine PySem.W.methodCall_KW (pl := pl) (thn (h pins s I) fun u s1 hq => ?_) ht
  obtain ⟨x, H1, I1, rx, a, dx, fs, rfl, ea, l, q⟩ := hq
  obtain rfl : u = Value.ref a := rx
  exact getmeth_ok I1 ea c hm l (PySem.W.callWith_K0 (first := [.ref a]) I1.kIn hm.kp (wp_run (vs := [.ref a]) (us := [.ref a]) G hr hb hd tk I1 (.cons rfl .nil) q))
theorem wp_runmake {sp : Sp} {pins : List (Addr × Obj)} {σ : L2.St} {H : Hp} {s : Shared} {Q : VK} {us : List Value} {vs : List V} (M : Mk X.K C f) (G : FnOk X.prog X.w X.K X.mg X.base (L2.CX X.prog X.w) k f fd ps sp) (hr : Room (k + 1) X.A) (hb : Binds X.K fd ps ds) (hd : Vals dvs ds) (tk : Takes X W)
    (I : Inv X pins σ H s) (r : Vals vs us)
    (h : ∀ x dx, H x = none → H dx = none → dx ≠ x → sp (.ref x :: (vs ++ dvs)) (upd (upd H dx (.own x)) x (.ins C dx [])) (fun v H2 => v = .non ∧ Q (.ref x) H2) (WE W σ)) :
    wpAny (model X.prog X.w) X.A (call (.ref C) us) (EP X pins σ Q) X.xe s := by
  have n0 : H s.heap.objs.size = none := I.hok.fresh (Nat.le_refl _)
  have n1 : H (s.heap.objs.size + 1) = none := I.hok.fresh (Nat.le_succ _)
  have hsp := h _ _ n1 n0 (Nat.ne_of_lt (Nat.lt_succ_self _))
  have J := Inv.made (C := C) I
  have rr : Vals (.ref (s.heap.objs.size + 1) :: (vs ++ dvs)) (.ref (s.heap.objs.size + 1) :: (us ++ ds)) := .cons rfl (r.append hd)
  have hl : (Value.ref (s.heap.objs.size + 1) :: us ++ ds).length = ps.length := (rr.length.symm.trans (G.len _ _ _ _ hsp))
  have bd := hb { s with heap := (s.heap.push PySem.W.emptyDict).push (PySem.W.instObj C s.heap.objs.size) } (.ref (s.heap.objs.size + 1) :: us) J.kIn hl
  refine wpAny_call (make_map (f := f) I.kIn M.makes M.init (beq_iff_eq.mp M.fn) (codeAny_mono (G.run _ X.stack _ _ ⟨.ref (s.heap.objs.size + 1) :: us, []⟩ _ _ _ (WE W σ) (hr.make C us []) (J.env0.make C us []) bd rr hsp) fun res s' hres => ?_))
  match res, hres with
  | .error e, hres => exact passAt tk σ pins _ _ e s' J hres
  | .ok (.ret u), hres =>
    obtain ⟨v, H', I3, rv, ev, q3⟩ := J.after hres
    subst ev
    exact ⟨rv, .ref (s.heap.objs.size + 1), H', I3, rfl, q3⟩
  | .ok .next, hres => exact False.elim hres
  | .ok .brk, hres => exact False.elim hres
  | .ok .cont, hres => exact False.elim hres
theorem wp_make {sp : Sp} {σ : L2.St} {H : Hp} {Q : VK} (M : Mk X.K C f) (G : FnOk X.prog X.w X.K X.mg X.base (L2.CX X.prog X.w) k f fd ps sp) (hr : Room (k + 1) X.A) (hg : Gl X x) (hm : X.mg x = some (.ref C)) (hb : Binds X.K fd ps ds) (hd : Vals dvs ds) (tk : Takes X W)
    (h : WpA X (e :: es) σ H fun vs H1 => ∀ x dx, H1 x = none → H1 dx = none → dx ≠ x → sp (.ref x :: (vs ++ dvs)) (upd (upd H1 dx (.own x)) x (.ins C dx [])) (fun v H2 => v = .non ∧ Q (.ref x) H2) (WE W σ))
    (hdb : (x == ("__debug__" : Str)) = false := by decide) (he : starEach (e :: es) X.env = (false, eval e X.env) :: starEach es X.env := by rfl) (hpl : (backTo pos (starEach es X.env)).any (·.1) = false := by rfl) :
    Wp X (.Call (.Name x p) (e :: es) [] pos) σ H Q := fun pins s I =>
  wpAny_Call_Name_kw (ld_glob I hg hm (PySem.W.callWith_K (h₀ := X.base) I.ok.mod.kin M.kp (thn (h pos pins s I) fun us s1 ⟨vs, H1, I1, r, q⟩ => ⟨I1.kIn, wp_runmake M G hr hb hd tk I1 r q⟩) he hpl) hdb)

end
section
variable {C : TC} {P : Prog} {call : Nat → List SV → Store → R D} {lvl : Nat} {X : Cx} {W : WX} {nm : List Str} {as : List Addr} {H : Hp} {st : Store} {sl : Slots} {σ : L2.St} {Q : VK}
/-- a def's promise, from its result -/
theorem sp_of {g : List SV → Store → R D} {fd : FuncData} {ps : List Str} {n : Nat} {ds : List Value} {dvs : List V} {dx xs : List D} {vs : List V} (S : StOk nm X.K X.mg as st H) (B : BindQ X.K fd ps g n ds dvs dx) (hn : xs.length = n) (r : Reps X.K as H xs vs)
    (hP : Post X nm W (RpE X) σ as H (g (xs.map SV.d) st) Q) : SpQ nm X.K X.mg ps.length g (vs ++ dvs) H Q (WE W σ) := by
  refine ⟨as, st, xs.map SV.d ++ dx.map SV.d, by rw [List.length_append, List.length_map, List.length_map, hn]; exact B.l, S, (SVReps.of r).app (SVReps.of (B.r as H)), ?_⟩
  rw [← B.g (xs.map SV.d) st (by rw [List.length_map]; exact hn)]
  cases q : g (xs.map SV.d) st with
  | ok d st' => rw [q] at hP; exact hP
  | ex e st' => rw [q] at hP; exact hP
  | bad => rw [q] at hP; exact hP
theorem not_bad {α β : Type} {Rp : RpT α β} {m : R α} {Q : β → Hp → Prop} (hP : Post X nm W Rp σ as H m Q) : m ≠ .bad := fun e => by rw [e] at hP; exact hP
theorem all_not {es : List Expr} {e : Expr} (h : (e :: es).all notStar = true) : notStar e = true ∧ es.all notStar = true := by
  rw [List.all_cons, Bool.and_eq_true] at h
  exact h
theorem reps_len {xs : List D} {vs : List V} (r : Reps X.K as H xs vs) : xs.length = vs.length := r.length.symm
theorem evEs_len {es : List E} : ∀ {sl : Slots} {st : Store} {xs : List D} {st' : Store}, evEs P call es sl st = .ok xs st' → xs.length = es.length := by
  induction es with
  | nil => intro sl st xs st' h; rw [evEs] at h; cases h; rfl
  | cons e es ih =>
    intro sl st xs st' h
    rw [evEs] at h
    cases q : evE P call e sl st with
    | ok x s =>
      rw [q] at h
      cases q2 : evEs P call es sl s with
      | ok ys s2 =>
        simp only [R.ok_bind, q2] at h
        cases h
        rw [List.length_cons, List.length_cons, ih q2]
      | ex e s2 => simp [q2] at h
      | bad => simp [q2] at h
    | ex e s => rw [q] at h; cases h
    | bad => rw [q] at h; cases h
/-- f(e, ..) -/
theorem xe_call (hy : Hy C P call lvl X W) (hcm : C.calm = true) {x : Str} {k : Nat} {self : Expr → E} {es : List Expr} {p pos : Pos} (hg : glob C X.env.scope x = some (.fn k)) (hs : es.all notStar = true) (ha : ∀ e ∈ es, XE X C.nm W P call (self e) e) :
    XE X C.nm W P call (.call k (es.map self)) (.Call (.Name x p) es [] pos) := fun as sl st σ H Q S hP => by
  obtain ⟨h1, h2, h3⟩ := glob_ok hg
  obtain ⟨n1, n2, n3⟩ := okNm_ok h2
  obtain ⟨f, hm, ⟨fd, ps, hk, G, hB⟩⟩ := hy.fx.fn x k h3
  rw [evE] at hP
  cases es with
  | nil =>
    replace hP : Post X C.nm W (RpE X) σ as H (call k (([] : List D).map SV.d) st) Q := hP
    obtain ⟨ds, dvs, dx, B⟩ := hB 0 ⟨([] : List D).map SV.d, st, rfl, not_bad hP⟩
    exact wp_call0 G ((hy.hr hcm).mono (Nat.le_succ _)) h1 hm hk B.b B.v hy.tk (sp_of (xs := []) (vs := []) S.st B rfl rfl hP) n1
  | cons e es =>
    obtain ⟨s1, s2⟩ := all_not hs
    have A := xa_map hs ha
    -- how many things are handed on
    cases q : evEs P call ((e :: es).map self) sl st with
    | bad => rw [q] at hP; exact hP.elim
    | ex z s =>
      -- the arguments raise: any binding will do
      rw [q] at hP
      exact fun pins s0 I => by
        refine wpAny_Call_Name_kw (ld_glob I h1 hm ?_ n1)
        refine PySem.W.callWith_K (h₀ := X.base) I.ok.mod.kin hk (thn (A as sl st σ H (fun _ _ => False) S (by rw [q]; exact hP) pos pins s0 I) fun us s1 ⟨vs, H1, _, _, z⟩ => z.elim) (star_ok s1 es X.env) (any_ok pos X.env s2)
    | ok xs s =>
      rw [q] at hP
      replace hP : Post X C.nm W (RpE X) σ as H (call k (xs.map SV.d) s) Q := hP
      have hl := evEs_len q
      obtain ⟨ds, dvs, dx, B⟩ := hB ((e :: es).map self).length ⟨xs.map SV.d, s, by rw [List.length_map]; exact hl, not_bad hP⟩
      refine wp_call G ((hy.hr hcm).mono (Nat.le_succ _)) h1 hm hk B.b B.v hy.tk (A as sl st σ H _ S ?_) n1 (star_ok s1 es X.env) (any_ok pos X.env s2)
      rw [q]
      exact fun as1 H1 vs e1 S1 r1 => sp_of S1 B hl r1 (Post.ev (m := call k (xs.map SV.d) s) hP e1)
/-- C(e, ..) -/
theorem xe_make (hy : Hy C P call lvl X W) (hcm : C.calm = true) {x : Str} {c : Nat} {self : Expr → E} {es : List Expr} {p pos : Pos} (hg : glob C X.env.scope x = some (.cls c)) (hs : es.all notStar = true) (hne : es ≠ []) (ha : ∀ e ∈ es, XE X C.nm W P call (self e) e) :
    XE X C.nm W P call (.make c (es.map self)) (.Call (.Name x p) es [] pos) := fun as sl st σ H Q S hP => by
  obtain ⟨h1, h2, h3⟩ := glob_ok hg
  obtain ⟨n1, n2, n3⟩ := okNm_ok h2
  rw [evE] at hP
  cases es with
  | nil => exact (hne rfl).elim
  | cons e es =>
    obtain ⟨s1, s2⟩ := all_not hs
    have A := xa_map hs ha
    obtain ⟨hnm, f, Cd, fI, q0, hm, M, hc, ⟨fd, ps, hk, G, hB⟩⟩ := hy.fx.cls x c h3
    have e0 : ∀ xs s, makeD P call c xs s = (call f ((.ptr s.length :: xs).map .d) (s ++ [.ins c []])).bind fun r st' => if isNon r then .ok (.ptr s.length) st' else .bad := fun xs s => by unfold makeD; rw [q0]
    cases q : evEs P call ((e :: es).map self) sl st with
    | bad => rw [q] at hP; exact hP.elim
    | ex z s =>
      rw [q] at hP
      exact fun pins s0 I => by
        refine wpAny_Call_Name_kw (ld_glob I h1 hm ?_ n1)
        refine PySem.W.callWith_K (h₀ := X.base) I.ok.mod.kin M.kp (thn (A as sl st σ H (fun _ _ => False) S (by rw [q]; exact hP) pos pins s0 I) fun us s1 ⟨vs, H1, _, _, z⟩ => z.elim) (star_ok s1 es X.env) (any_ok pos X.env s2)
    | ok xs s =>
      rw [q, R.ok_bind, e0] at hP
      have hl := evEs_len q
      have nb : call f ((D.ptr s.length :: xs).map SV.d) (s ++ [.ins c []]) ≠ .bad := fun z => by rw [z] at hP; exact hP
      obtain ⟨ds, dvs, dx, B⟩ := hB (((e :: es).map self).length + 1) ⟨(D.ptr s.length :: xs).map SV.d, s ++ [.ins c []], by rw [List.length_map, List.length_cons, hl], nb⟩
      refine wp_make M G (hy.hr hcm) h1 hm B.b B.v hy.tk (A as sl st σ H _ S ?_) n1 (star_ok s1 es X.env) (any_ok pos X.env s2)
      rw [q]
      intro as1 H1 vs e1 S1 r1 y dy hy1 hd1 hne1
      have hP1 := Post.ev (m := (call f ((D.ptr s.length :: xs).map SV.d) (s ++ [.ins c []])).bind fun r st' => if isNon r then R.ok (D.ptr s.length) st' else R.bad) hP e1
      obtain ⟨S2, e2⟩ := S1.laid (x := .own y) hd1
      have hy2 : upd H1 dy (.own y) y = none := by rw [upd_ne (fun z => hne1 z.symm)]; exact hy1
      obtain ⟨S3, e3⟩ := S2.new (x := .ins Cd dy []) (o := .ins c []) hy2 trivial fun _ => ⟨x, Cd, dy, [], hnm, hm, hc, (fun q hq => by cases hq), upd_same, rfl⟩
      have hat : (as1 ++ [y])[s.length]? = some y := by rw [← S1.len, List.getElem?_append_right (Nat.le_refl _), Nat.sub_self]; rfl
      refine sp_of (nm := C.nm) (n := ((e :: es).map self).length + 1) (xs := .ptr s.length :: xs) (vs := .ref y :: vs) S3 B (by rw [List.length_cons, hl]) (Reps.cons ⟨y, hat, rfl⟩ (Reps.ev S1.owns (e2.trans e3) _ _ r1)) ?_
      cases q4 : call f ((D.ptr s.length :: xs).map SV.d) (s ++ [.ins c []]) with
      | bad => exact (nb q4).elim
      | ex z s4 =>
        rw [q4] at hP1
        exact fun as4 H4 cls d e4 S4 r4 => hP1 as4 H4 cls d ((e2.trans e3).trans e4) S4 r4
      | ok r s4 =>
        rw [q4] at hP1
        intro as4 H4 v e4 S4 r4
        replace hP1 : Post X C.nm W (RpE X) σ as1 H1 (if isNon r then R.ok (D.ptr s.length) s4 else R.bad) Q := hP1
        cases qn : isNon r with
        | false => rw [qn] at hP1; exact hP1.elim
        | true =>
          rw [qn] at hP1
          have ev : v = .non := of_decide_eq_true (by rw [isNon_eq r4]; exact qn)
          exact ⟨ev, hP1 as4 H4 _ ((e2.trans e3).trans e4) S4 ⟨y, e4.at hat, rfl⟩⟩
/-- the form of a method's call on one line -/
theorem ht_ok {o : Expr} {m : Str} {apos pos : Pos} {es : List Expr} {env : Env} (hb : attributeBase o m env (eval o env) = eval o env) (hs : es.all notStar = true) (hn : es.length < 20) (hl : (apos.endLine == pos.line) = true) :
    eval (.Call (.Attribute o m apos) es [] pos) env = (do let ov ← eval o env; standAt apos.atName; let (f, first) ← holding [ov] (getMethod ov m (plainOf o env)); callWith pos f first (backTo pos (starEach es env)) (backToKw pos (keywordEach [] env))) := by
  have h0 : eval (.Call (.Attribute o m apos) es [] pos) env = (do let ov ← attributeBase o m env (eval o env); standAt apos.atName; methodCall o m apos pos env ov (es.length + ([] : List Keyword).length) (backTo pos (starEach es env)) (backToKw pos (keywordEach [] env))) := by
    rw [PySem.eval]
  have hf : methodCallForm (es.length + ([] : List Keyword).length) (backTo pos (starEach es env)) (backToKw pos (keywordEach [] env)) = true := by
    unfold methodCallForm
    rw [few_ok pos env hs]
    simp [backToKw, keywordEach]
    omega
  rw [h0, hb]
  congr 1
  funext ov
  congr 1
  funext _
  exact mcall_line hf hl
/-- o.m(e, ..), m an own method -/
theorem xe_met (hy : Hy C P call lvl X W) (hcm : C.calm = true) {o : Expr} {m : Str} {k : Nat} {lo : E} {self : Expr → E} {es : List Expr} {apos pos : Pos} (hb : attributeBase o m X.env (eval o X.env) = eval o X.env) (hs : es.all notStar = true) (hn : es.length < 20) (hl : (apos.endLine == pos.line) = true)
    (hk : idx C.nm m = some k) (ho : XE X C.nm W P call lo o) (ha : ∀ e ∈ es, XE X C.nm W P call (self e) e) :
    XE X C.nm W P call (.met k lo (es.map self)) (.Call (.Attribute o m apos) es [] pos) := fun as sl st σ H Q S hP => by
  have hm := idx_at hk
  have ht := ht_ok (pos := pos) hb hs hn hl
  rw [evE] at hP
  let M : D → Store → R D := fun x st1 => match obj st1 x with
    | some (.ins c fs) => (match fs.lookup k, P.meth.lookup (c, k) with
      | none, some f => (evEs P call (es.map self) sl st1).bind fun xs st => call f ((x :: xs).map .d) st
      | _, _ => .bad)
    | _ => .bad
  have h0 : Wp X o σ H fun v H1 => ∃ as1 st1 x, Ev as H as1 H1 ∧ StOk C.nm X.K X.mg as1 st1 H1 ∧ Rep X.K as1 H1 x v ∧ Post X C.nm W (RpE X) σ as1 H1 (M x st1) Q :=
    ho as sl st σ H _ S (Post.seq (k := M) hP fun x st1 as1 H1 v e1 S1 r1 hP1 => ⟨as1, st1, x, e1, S1, r1, hP1⟩)
  intro pins s I
  refine PySem.W.methodCall_KW (pl := plainOf o X.env) (thn (h0 pins s I) fun u s1 hq => ?_) ht
  obtain ⟨v, H1, I1, rv, as1, st1, x, e1, S1, r1, hP1⟩ := hq
  replace hP1 : Post X C.nm W (RpE X) σ as1 H1 (match obj st1 x with
    | some (.ins c fs) => (match fs.lookup k, P.meth.lookup (c, k) with
      | none, some f => (evEs P call (es.map self) sl st1).bind fun xs st => call f ((x :: xs).map .d) st
      | _, _ => .bad)
    | _ => .bad) Q := hP1
  split at hP1
  · rename_i c fs hobj
    obtain ⟨i, p, y, Cd, dx, fs', _, e2, _, _, hc, hmg, hcls, _, hp, hf⟩ := ins_at S1 hobj r1
    split at hP1
    · rename_i f hfl hml
      obtain ⟨fM, hM, ⟨fd, ps, hkp, G, hB⟩⟩ := hy.fx.meth c k f y m Cd hml hc hm hmg
      subst e2
      obtain rfl : u = Value.ref p := rv
      cases es with
      | nil =>
        replace hP1 : Post X C.nm W (RpE X) σ as1 H1 (call f ([x].map SV.d) st1) Q := hP1
        obtain ⟨ds, dvs, dx', B⟩ := hB 1 ⟨[x].map SV.d, st1, rfl, not_bad hP1⟩
        exact getmeth_ok I1 hp hcls hM (frep_no hy.inj hm hf hfl) (PySem.W.callWith_K0 (first := [.ref p]) I1.kIn hM.kp (wp_run (vs := [.ref p]) (us := [.ref p]) G ((hy.hr hcm).mono (Nat.le_succ _)) B.b B.v hy.tk I1 (.cons rfl .nil) (sp_of (xs := [x]) (vs := [.ref p]) S1 B rfl (Reps.cons (ds := []) (us := []) r1 rfl) hP1)))
      | cons e es =>
        obtain ⟨s1', s2'⟩ := all_not hs
        have A := xa_map hs ha
        have Sat1 := S.ev e1 S1
        cases q : evEs P call ((e :: es).map self) sl st1 with
        | bad => rw [q] at hP1; exact hP1.elim
        | ex z s' =>
          rw [q] at hP1
          exact getmeth_ok I1 hp hcls hM (frep_no hy.inj hm hf hfl) (PySem.W.callWith_K (first := [.ref p]) (h₀ := X.base) I1.ok.mod.kin hM.kp (thn (A as1 sl st1 σ H1 (fun _ _ => False) Sat1 (by rw [q]; exact hP1) pos pins s1 I1) fun us s2 ⟨vs, H2, _, _, z⟩ => z.elim) (star_ok s1' es X.env) (any_ok pos X.env s2'))
        | ok xs s' =>
          rw [q] at hP1
          replace hP1 : Post X C.nm W (RpE X) σ as1 H1 (call f ((x :: xs).map SV.d) s') Q := hP1
          have hl' := evEs_len q
          obtain ⟨ds, dvs, dx', B⟩ := hB (((e :: es).map self).length + 1) ⟨(x :: xs).map SV.d, s', by rw [List.length_map, List.length_cons, hl'], not_bad hP1⟩
          refine getmeth_ok I1 hp hcls hM (frep_no hy.inj hm hf hfl) (PySem.W.callWith_K (first := [.ref p]) (h₀ := X.base) I1.ok.mod.kin hM.kp (thn (A as1 sl st1 σ H1 (fun vs H2 => SpQ C.nm X.K X.mg ps.length (call f) (.ref p :: (vs ++ dvs)) H2 Q (WE W σ)) Sat1 ?_ pos pins s1 I1) fun us s2 hq2 => ?_) (star_ok s1' es X.env) (any_ok pos X.env s2'))
          · rw [q]
            exact fun as2 H2 vs e2 S2 r2 => sp_of (xs := x :: xs) (vs := .ref p :: vs) S2 B (by rw [List.length_cons, hl']) (Reps.cons (Rep.ev S1.owns e2 _ _ r1) r2) (Post.ev (m := call f ((x :: xs).map SV.d) s') hP1 e2)
          · obtain ⟨vs, H2, I2, r, q2⟩ := hq2
            exact ⟨I2.kIn, wp_run (vs := .ref p :: vs) (us := .ref p :: us) G ((hy.hr hcm).mono (Nat.le_succ _)) B.b B.v hy.tk I2 (.cons rfl r) q2⟩
    · exact hP1.elim
  · exact hP1.elim
end
end Pu
end

section
set_option Elab.async false
set_option linter.all false
set_option maxRecDepth 100000
set_option maxHeartbeats 4000000
namespace Pu
open PySem PySem.Spec L2
variable [tb : Tb]
section
variable {C : TC} {P : Prog} {call : Nat → List SV → Store → R D} {lvl : Nat} {X : Cx} {W : WX} {nm : List Str} {as : List Addr} {H : Hp} {st : Store} {sl : Slots} {σ : L2.St}
theorem super_no {o : Expr} (h : isSuper o = false) : ∀ f p, o ≠ .Call (.Name "super" p) [] [] f := fun f p e => by
  subst e
  exact absurd h (by simp [isSuper])
theorem lk_mem {β : Type} {k : Nat} {d : β} : ∀ {fs : List (Nat × β)}, fs.lookup k = some d → (k, d) ∈ fs
  | [], h => by cases h
  | q :: fs, h => by
    rw [show (q :: fs) = ((q.1, q.2) :: fs) from rfl, List.lookup_cons] at h
    by_cases hk : k = q.1
    · subst hk
      rw [beq_self_eq_true] at h
      cases h
      exact List.mem_cons_self
    · rw [beq_eq_false_iff_ne.mpr hk] at h
      exact List.mem_cons_of_mem _ (lk_mem h)
theorem xe_att (hy : Hy C P call lvl X W) {o : Expr} {f : Str} {k : Nat} {lo : E} {pos : Pos} (hs : isSuper o = false) (hk : idx C.nm f = some k) (ho : XE X C.nm W P call lo o) : XE X C.nm W P call (.att lo k) (.Attribute o f pos) := fun as sl st σ H Q S hP => by
  rw [evE] at hP
  refine wp_pe (pe_fld pe_wp (base_ok (super_no hs) f X.env)) (ho as sl st σ H _ S (Post.seq hP fun x st1 as1 H1 v e1 S1 r1 hP1 => ?_))
  have hm := idx_at hk
  cases q : obj st1 x with
  | none => rw [q] at hP1; exact hP1.elim
  | some ob =>
    rw [q] at hP1
    cases ob with
    | ins c fs =>
      obtain ⟨i, p, y, Cd, dx, fs', _, e2, _, _, hc, hmg, hcls, hno, hp, hf⟩ := ins_at S1 q r1
      replace hP1 : Post X C.nm W (RpE X) σ as1 H1 (R.ofO (fs.lookup k) st1) Q := hP1
      cases q2 : fs.lookup k with
      | none => rw [q2] at hP1; exact hP1.elim
      | some d =>
        rw [q2] at hP1
        obtain ⟨u, l1, l2⟩ := frep_at hy.inj hm hf q2
        exact ⟨p, Cd, dx, fs', u, e2, hp, hcls, hno (k, d) (lk_mem q2) f hm, l1, hP1.val S1 l2⟩
    | _ => exact hP1.elim
theorem xe_sub (hu : X.A.units + 1 < cLine) {la lb : E} {a b : Expr} {pos : Pos} (ha : XE X nm W P call la a) (hb : XE X nm W P call lb b) (hs : PlainIx b) : XE X nm W P call (.sub la lb) (.Subscript a b pos) := fun as sl st σ H Q S hP => by
  rw [evE] at hP
  refine wp_pe (pe_ix wix_r pe_wp pe_wp hs) (ha as sl st σ H _ S (Post.seq hP fun x st1 as1 H1 v e1 S1 r1 hP1 => ?_))
  refine hb as1 sl st1 σ H1 _ (S.ev e1 S1) (Post.seq hP1 fun y st2 as2 H2 u e2 S2 r2 hP2 => ?_)
  exact sub_ok hu S2 (Rep.ev S1.owns e2 _ _ r1) r2 hP2
theorem xe_rev {la : E} {a : Expr} {k : Nat} {p1 p2 p3 pos : Pos} (ha : XE X nm W P call la a) : XE X nm W P call (.rev la) (.Subscript a (.Slice none none (some (.UnaryOp .USub (.Constant (.int 1) k p1) p2)) p3) pos) := fun as sl st σ H Q S hP => by
  rw [evE] at hP
  refine wp_pe (pe_revL pe_wp) (ha as sl st σ H _ S (Post.seq hP fun x st1 as1 H1 v e1 S1 r1 hP1 => ?_))
  unfold revD at hP1
  cases q : lstAt st1 x with
  | none => rw [q] at hP1; exact hP1.elim
  | some ys =>
    rw [q] at hP1
    obtain ⟨i, p, us, e0, e2, q0, hp, h1, q1⟩ := lst_at S1 q r1
    exact ⟨p, us, e2, .inl (.inl h1), fun b hb => post_lst S1 hP1 q1.rev hb⟩
/-! slices -/
def XO (X : Cx) (nm : List Str) (W : WX) (P : Prog) (call : Nat → List SV → Store → R D) (l : Option E) (e : Option Expr) : Prop := ∃ t, PO X e t ∧ ∀ as sl st σ H (Q : Option Int → Hp → Prop), Sat X nm as sl st σ H → Post X nm W (fun _ _ a b => b = a) σ as H (evOp P call l sl st) Q → t σ H Q
theorem xo_none : XO X nm W P call none none := ⟨_, po_none, fun as sl st σ H Q S hP => hP.val S.st rfl⟩
theorem xo_some {l : E} {e : Expr} (h : XE X nm W P call l e) : XO X nm W P call (some l) (some e) := ⟨_, po_some pe_wp, fun as sl st σ H Q S hP => by
  rw [evOp] at hP
  refine h as sl st σ H _ S (Post.seq hP fun x st1 as1 H1 v e1 S1 r1 hP1 => ?_)
  cases x with
  | int i => cases r1; exact ⟨i, rfl, hP1.val S1 rfl⟩
  | _ => exact hP1.elim⟩
theorem xe_sli {la : E} {a : Expr} {llo lhi : Option E} {lo hi : Option Expr} {p2 pos : Pos} (ha : XE X nm W P call la a) (hl : XO X nm W P call llo lo) (hh : XO X nm W P call lhi hi) : XE X nm W P call (.sli la llo lhi) (.Subscript a (.Slice lo hi none p2) pos) := fun as sl st σ H Q S hP => by
  obtain ⟨tl, l1, l2⟩ := hl
  obtain ⟨th, h1, h2⟩ := hh
  rw [evE] at hP
  refine wp_pe (pe_slice wsl_r pe_wp l1 h1) (ha as sl st σ H _ S (Post.seq hP fun x st1 as1 H1 v e1 S1 r1 hP1 => ?_))
  refine l2 as1 sl st1 σ H1 _ (S.ev e1 S1) (Post.seq hP1 fun y st2 as2 H2 u e2 S2 r2 hP2 => ?_)
  have r2 : u = y := r2
  subst r2
  refine h2 as2 sl st2 σ H2 _ ((S.ev e1 S1).ev e2 S2) (Post.seq hP2 fun z st3 as3 H3 w e3 S3 r3 hP3 => ?_)
  have r3 : w = z := r3
  subst r3
  exact sli_ok S3 (Rep.ev S2.owns e3 _ _ (Rep.ev S1.owns e2 _ _ r1)) u w hP3
/-! dict displays -/
def flat2 (vs : List (V × V)) : List V := vs.flatMap fun p => [p.1, p.2]
theorem xd_pairs {f : Expr → E} : ∀ (ps : List (Expr × Expr)), (∀ p ∈ ps, XE X nm W P call (f p.1) p.1 ∧ XE X nm W P call (f p.2) p.2) → ∀ as sl st σ H (Q : List (V × V) → Hp → Prop), Sat X nm as sl st σ H →
    Post X nm W (RpA X) σ as H (evEs P call ((ps.map fun p => [f p.1, f p.2]).flatten) sl st) (fun us H1 => ∀ vs, us = flat2 vs → Q vs H1) → tPairs (ps.map fun p => (Wp X p.1, Wp X p.2)) σ H Q
  | [], _, as, sl, st, σ, H, Q, S, hP => (show ∀ vs, [] = flat2 vs → Q vs H from hP.val S.st rfl) [] rfl
  | p :: ps, h, as, sl, st, σ, H, Q, S, hP => by
    obtain ⟨h1, h2⟩ := h p List.mem_cons_self
    rw [List.map_cons, List.flatten_cons] at hP
    rw [List.cons_append, List.cons_append, List.nil_append, evEs] at hP
    refine h1 as sl st σ H _ S (Post.seq hP fun x st1 as1 H1 v e1 S1 r1 hP1 => ?_)
    rw [evEs] at hP1
    replace hP1 : Post X nm W (RpA X) σ as1 H1 ((evE P call (f p.2) sl st1).bind fun y st => (evEs P call ((ps.map fun p => [f p.1, f p.2]).flatten) sl st).bind fun ys st => .ok (x :: y :: ys) st) (fun us H1 => ∀ (vs : List (V × V)), us = flat2 vs → Q vs H1) := by
      rw [R.bind_assoc] at hP1
      have : ∀ y s, ((evEs P call ((ps.map fun p => [f p.1, f p.2]).flatten) sl s).bind fun xs st => R.ok (y :: xs) st).bind (fun xs st => R.ok (x :: xs) st) = (evEs P call ((ps.map fun p => [f p.1, f p.2]).flatten) sl s).bind fun ys st => .ok (x :: y :: ys) st := fun y s => by rw [R.bind_assoc]; rfl
      simp only [this] at hP1
      exact hP1
    refine h2 as1 sl st1 σ H1 _ (S.ev e1 S1) (Post.seq hP1 fun y st2 as2 H2 u e2 S2 r2 hP2 => ?_)
    refine xd_pairs ps (fun q hq => h q (List.mem_cons_of_mem _ hq)) as2 sl st2 σ H2 (fun vs H3 => Q ((v, u) :: vs) H3) ((S.ev e1 S1).ev e2 S2) (Post.seq hP2 fun zs st3 as3 H3 us e3 S3 r3 hP3 => fun vs ev => ?_)
    have := hP3.val S3 (Reps.cons (Rep.ev S2.owns e3 _ _ (Rep.ev S1.owns e2 _ _ r1)) (Reps.cons (Rep.ev S2.owns e3 _ _ r2) r3))
    exact this ((v, u) :: vs) (by rw [ev]; rfl)
theorem pps_map {pos : Pos} : ∀ (ps : List (Expr × Expr)), PPs X pos (ps.map fun p => some p.1) (ps.map fun p => p.2) (ps.map fun p => (Wp X p.1, Wp X p.2))
  | [] => pps_nil
  | p :: ps => pps_cons pe_wp pe_wp (pps_map ps)
theorem dicOf_rep : ∀ {vs : List (V × V)} {ds : List D} {acc kvs : List (D × D)} {l : List (Key × V)}, Reps X.K as H ds (flat2 vs) → DRepG keyK X.K as H acc l → dicOf ds acc = some kvs →
    ∃ m : List (Key × V), vs = m.map (fun kv => (kV kv.1, kv.2)) ∧ DRepG keyK X.K as H kvs (mergeK l m)
  | [], ds, acc, kvs, l, r, g, h => by
    cases ds with
    | nil => cases h; exact ⟨[], rfl, g⟩
    | cons d ds => have := r.length; simp [flat2] at this
  | p :: vs, ds, acc, kvs, l, r, g, h => by
    cases ds with
    | nil => have := r.length; simp [flat2] at this
    | cons k ds =>
      cases ds with
      | nil => have := r.length; simp [flat2] at this
      | cons v ds =>
        rw [dicOf] at h
        split at h
        · rename_i hf
          obtain ⟨u, w, e1, r1, r2⟩ := r.inv
          obtain ⟨u2, w2, e2, r3, r4⟩ := r2.inv
          have e3 : (p.1 :: p.2 :: flat2 vs) = u :: u2 :: w2 := by rw [← e2, ← e1]; rfl
          cases e3
          obtain ⟨kk, k1, k2⟩ := keyK_rep hf r1
          obtain ⟨m, m1, m2⟩ := dicOf_rep r4 (dput_rep (fun a b => keyK_inj a b) g k1 r3) h
          exact ⟨(kk, p.2) :: m, by rw [List.map_cons, ← m1, ← k2], m2⟩
        · cases h
theorem disp_pairs {f : Expr → E} : ∀ {ks : List (Option Expr)} {vs : List Expr} {l : List (List E)}, ks.length = vs.length → (ks.zip vs).mapM (fun (p : Option Expr × Expr) => p.1.map fun k => [f k, f p.2]) = some l →
    ∃ ps : List (Expr × Expr), ks = ps.map (fun p => some p.1) ∧ vs = ps.map (fun p => p.2) ∧ l = ps.map fun p => [f p.1, f p.2]
  | [], [], l, _, h => by cases h; exact ⟨[], rfl, rfl, rfl⟩
  | [], v :: vs, l, h0, h => by cases h0
  | k :: ks, [], l, h0, h => by cases h0
  | k :: ks, v :: vs, l, h0, h => by
    rw [List.zip_cons_cons, mapM_cons] at h
    cases k with
    | none => cases h
    | some k =>
      rw [Option.map_some, Option.bind_some] at h
      cases q : (ks.zip vs).mapM (fun (p : Option Expr × Expr) => p.1.map fun k => [f k, f p.2]) with
      | none => rw [q] at h; cases h
      | some l2 =>
        rw [q] at h
        cases h
        obtain ⟨ps, p1, p2, p3⟩ := disp_pairs (by simpa using h0) q
        exact ⟨(k, v) :: ps, by rw [p1]; rfl, by rw [p2]; rfl, by rw [p3]; rfl⟩
theorem flat2_len (vs : List (V × V)) : (flat2 vs).length = 2 * vs.length := by
  induction vs with
  | nil => rfl
  | cons v vs ih => show (v.1 :: v.2 :: flat2 vs).length = _; rw [List.length_cons, List.length_cons, ih, List.length_cons]; omega
theorem xe_dic {f : Expr → E} {ps : List (Expr × Expr)} {pos : Pos} (h0 : ps ≠ []) (h15 : ps.length ≤ 15) (h : ∀ p ∈ ps, XE X nm W P call (f p.1) p.1 ∧ XE X nm W P call (f p.2) p.2) :
    XE X nm W P call (.dic (ps.map fun p => [f p.1, f p.2]).flatten) (.Dict (ps.map fun p => some p.1) (ps.map fun p => p.2) pos) := fun as sl st σ H Q S hP => by
  rw [evE] at hP
  refine wp_pe (pe_disp (pps_map ps) (by simp) (by simp) (by simpa using h0) (by simpa using h15)) fun p hp => ?_
  obtain ⟨S1, e1⟩ := S.st.laid (x := .dK []) hp
  have hn : p ∉ as := fun h => by
    obtain ⟨o, h1, _⟩ := S.st.owns p h
    rw [hp] at h1; cases h1
  refine xd_pairs ps h as sl st σ _ _ (S.ev e1 S1) ?_
  cases qe : evEs P call ((ps.map fun p => [f p.1, f p.2]).flatten) sl st with
  | bad => rw [qe] at hP; exact hP.elim
  | ex z s => rw [qe] at hP; exact fun as2 H2 cls d e2 S2 r2 => hP as2 H2 cls d (e1.trans e2) S2 r2
  | ok xs s =>
    rw [qe] at hP
    intro as2 H2 us e2 S2 r2 vs ev
    subst ev
    have hp2 : H2 p = some (.dK []) := e2.keep _ _ upd_same hn trivial
    have hn2 : p ∉ as2 := fun z => by have := e2.new p z hn; rw [upd_same] at this; cases this
    refine ⟨hp2, ?_⟩
    replace hP : Post X nm W (RpE X) σ as H (if xs.length ≤ 30 then (match dicOf xs [] with
      | some kvs => new (.dic kvs) s
      | none => .bad) else .bad) Q := hP
    split at hP
    · rename_i hl
      cases q : dicOf xs [] with
      | none => rw [q] at hP; exact hP.elim
      | some kvs =>
        rw [q] at hP
        obtain ⟨m, m1, m2⟩ := dicOf_rep r2 (show DRepG keyK X.K as2 H2 [] [] from rfl) q
        refine ⟨m, m1, ?_, ?_⟩
        · have a := r2.length
          rw [flat2_len, m1, List.length_map] at a
          omega
        · obtain ⟨S3, e3⟩ := S2.adopt (o := .dic kvs) (x := .dK (mergeK [] m)) (e1.trans e2) hp hp2 trivial hn2 fun k => ⟨_, upd_same, .inl ⟨_, rfl, m2.lk k⟩⟩
          exact hP _ _ _ e3 S3 ⟨p, by rw [← S2.len, List.getElem?_append_right (Nat.le_refl _), Nat.sub_self]; rfl, rfl⟩
    · exact hP.elim
end
end Pu
end

section
set_option Elab.async false
set_option linter.all false
set_option maxRecDepth 100000
set_option maxHeartbeats 4000000
namespace Pu
open PySem PySem.Spec L2
variable [tb : Tb]
section
variable {C : TC} {P : Prog} {call : Nat → List SV → Store → R D} {lvl : Nat} {X : Cx} {W : WX} {nm : List Str} {as : List Addr} {H : Hp} {st : Store} {sl : Slots} {σ : L2.St}
/-! built-ins called -/
theorem bf_boot {m : Str} {b : Bf} (h : bfOf m = some b) : bootBuiltins m = some (bv b) ∧ ((∃ i, bv b = .builtin i) ∨ ∃ t, bv b = .type t) := by
  unfold bfOf at h
  simp only [List.foldr_cons, List.foldr_nil] at h
  repeat' split at h
  all_goals first
    | (cases h; rename_i e; first | (subst e; refine ⟨by decide +kernel, ?_⟩; first | exact .inl ⟨_, rfl⟩ | exact .inr ⟨_, rfl⟩) | skip)
    | cases h
theorem xe_blt (hy : Hy C P call lvl X W) (hcm : C.calm = true) {x : Str} {b : Bf} {self : Expr → E} {es : List Expr} {p pos : Pos} (hg : glob C X.env.scope x = some .free) (hb : bfOf x = some b) (hs : es.all notStar = true) (ha : ∀ e ∈ es, XE X C.nm W P call (self e) e) :
    XE X C.nm W P call (.blt b (es.map self)) (.Call (.Name x p) es [] pos) := fun as sl st σ H Q S hP => by
  obtain ⟨h1, h2, h3⟩ := glob_ok hg
  obtain ⟨n1, n2, n3⟩ := okNm_ok h2
  have hm := hy.fx.free x h3
  obtain ⟨hv, hk⟩ := bf_boot hb
  rw [evE] at hP
  cases es with
  | nil =>
    replace hP : Post X C.nm W (RpE X) σ as H (bltD b [] st) Q := hP
    cases b <;> exact hP.elim
  | cons e es =>
    obtain ⟨s1, s2⟩ := all_not hs
    have A := xa_map hs ha
    have T : tCB (WCl X (bv b)) (WpA X (e :: es)) σ H Q := A as sl st σ H _ S (Post.seq hP fun xs st1 as1 H1 vs e1 S1 r1 hP1 => blt_ok (hy.calm hcm) S1 b r1 hP1)
    rcases hk with ⟨i, hi⟩ | ⟨t, ht⟩
    · rw [hi] at hv T
      exact wp_pe (pe_callB wcl_r h1 hm hv pa_wp n3 n1 (star_ok s1 es X.env) (any_ok pos X.env s2)) T
    · rw [ht] at hv T
      exact wp_pe (pe_callTy wcl_r h1 hm hv pa_wp n3 n1 (star_ok s1 es X.env) (any_ok pos X.env s2)) T
/-! isinstance -/
def tyN : Nat → String
  | 0 => "str" | 1 => "bool" | _ => "int"
theorem ty_boot {m : Str} {k : Nat} (h : tyOf m = some k) : bootBuiltins m = some (.type (tyN k)) := by
  unfold tyOf at h
  simp only [List.foldr_cons, List.foldr_nil] at h
  repeat' split at h
  all_goals first
    | (cases h; rename_i e; first | (subst e; decide +kernel) | skip)
    | cases h
theorem isty_ok (S : StOk nm X.K X.mg as st H) {k : Nat} {d : D} {v : V} (r1 : Rep X.K as H d v) {Q : VK} (hP : Post X nm W (RpE X) σ as H (istyD k d st) Q) :
    ∃ ty b, TyX X.K H v (.type ty) ∧ kitB ty (tyN k) = some b ∧ Q (.bl b) H := by
  unfold istyD at hP
  have K : ∀ {ty : String} {b : Bool}, TyX X.K H v (.type ty) → kitB ty (tyN k) = some b → Post X nm W (RpE X) σ as H (.ok (.bl b) st) Q → ∃ ty b, TyX X.K H v (.type ty) ∧ kitB ty (tyN k) = some b ∧ Q (.bl b) H := fun {ty b} h1 h2 h3 => ⟨ty, b, h1, h2, h3.val S rfl⟩
  have str : ∀ s, d = .str s → TyX X.K H v (.type "str") := fun s e => by
    subst e
    obtain ⟨e, _⟩ := (show v = .str (sOf s) ∧ _ from r1)
    subst e
    exact .base (.str _)
  split at hP
  · exact K (str _ rfl) (by decide +kernel) hP
  · rename_i i
    obtain ⟨p, hp, e⟩ := (show ∃ p, as[i]? = some p ∧ v = .ref p from r1)
    subst e
    split at hP
    · rename_i q
      obtain ⟨us, h1, _⟩ := S.at_ i _ p q hp
      exact K (.base (.lst h1)) (by decide +kernel) hP
    · rename_i q
      obtain ⟨ho, h1, h2⟩ := S.at_ i _ p q hp
      rcases h2 with ⟨l, e, _⟩ | ⟨l, e, _⟩
      · subst e; exact K (.base (.dK h1)) (by decide +kernel) hP
      · subst e; exact K (.base (.dT h1)) (by decide +kernel) hP
    · exact hP.elim
  · cases d with
    | non => cases r1; exact K (.base .non) (by decide +kernel) hP
    | bl b => cases r1; exact K (.base (.bl _)) (by decide +kernel) hP
    | int b => cases r1; exact K (.base (.int _)) (by decide +kernel) hP
    | tup xs =>
      obtain ⟨p, us, e, h1, _⟩ := (show ∃ p us, v = .ref p ∧ H p = some (.tup us) ∧ _ from r1)
      subst e
      exact K (.base (.tup h1)) (by decide +kernel) hP
    | scr ns =>
      obtain ⟨p, e, h1⟩ := (show ∃ p, v = .ref p ∧ SRl X.K H p (ns.map V.int) from r1)
      subst e
      rcases h1 with ⟨o, h1⟩ | ⟨o, its, n, h1, h2, _⟩
      · exact K (.base (.frz h1)) (by decide +kernel) hP
      · exact K (.kList h1 h2) (by decide +kernel) hP
    | str s => rename_i h _; exact (h s rfl).elim
    | ptr i => rename_i _ h; exact (h i rfl).elim
  · cases r1; exact K (.base (.bl _)) (by decide +kernel) hP
  · cases r1; exact K (.base .non) (by decide +kernel) hP
  · cases r1; exact K (.base (.int _)) (by decide +kernel) hP
  · exact K (str _ rfl) (by decide +kernel) hP
  · cases r1; exact K (.base (.int _)) (by decide +kernel) hP
  · cases r1; exact K (.base (.bl _)) (by decide +kernel) hP
  · cases r1; exact K (.base .non) (by decide +kernel) hP
  · exact K (str _ rfl) (by decide +kernel) hP
  · exact hP.elim
theorem xe_isty (hy : Hy C P call lvl X W) {x t : Str} {k : Nat} {la : E} {a : Expr} {p p2 pos : Pos} (hg : glob C X.env.scope x = some .free) (hx : x = ("isinstance" : Str)) (hgt : glob C X.env.scope t = some .free) (ht : tyOf t = some k) (hs : notStar a = true) (ha : XE X C.nm W P call la a) :
    XE X C.nm W P call (.isty k la) (.Call (.Name x p) [a, .Name t p2] [] pos) := fun as sl st σ H Q S hP => by
  obtain ⟨h1, h2, h3⟩ := glob_ok hg
  obtain ⟨n1, n2, n3⟩ := okNm_ok h2
  obtain ⟨g1, g2, g3⟩ := glob_ok hgt
  obtain ⟨m1, m2, m3⟩ := okNm_ok g2
  have hv : bootBuiltins x = some (.builtin "isinstance") := by subst hx; decide +kernel
  rw [evE] at hP
  refine wp_pe (pe_callB call_isi h1 (hy.fx.free x h3) hv (pa_cons pe_wp (pa_cons (pe_bltn (v := .ty (tyN k)) g1 (hy.fx.free t g3) (ty_boot ht) rfl m3 m1) pa_nil rfl) (star_ok hs _ X.env)) n3 n1 (star_ok hs _ X.env) rfl) ?_
  refine ha as sl st σ H _ S (Post.seq hP fun d st1 as1 H1 v e1 S1 r1 hP1 => ?_)
  obtain ⟨ty, b, t1, t2, t3⟩ := isty_ok S1 r1 hP1
  exact ⟨v, .ty (tyN k), .type ty, .type (tyN k), b, rfl, .ty _, t1, kit_ty t2, t3⟩
/-! built-in methods -/
def MOk (X : Cx) (nm : List Str) (W : WX) (σ : L2.St) (b : Bm) (id : String) : Prop := ∀ {as : List Addr} {H : Hp} {st : Store} {x : D} {xs : List D} {u : V} {us : List V} {Q : VK}, StOk nm X.K X.mg as st H → Rep X.K as H x u → Reps X.K as H xs us → Post X nm W (RpE X) σ as H (bmD b x xs st) Q → WMt X id u us H Q
theorem lst_ty (S : StOk nm X.K X.mg as st H) {x : D} {v : V} (h : (lstAt st x).isSome = true) (r : Rep X.K as H x v) : tyV X.K "list" v H := by
  obtain ⟨ys, q⟩ := Option.isSome_iff_exists.mp h
  obtain ⟨i, p, us, e0, e2, q0, hp, h1, q1⟩ := lst_at S q r
  rw [e2]
  exact .inl ⟨rfl, us, .inl (.inl h1)⟩
theorem xe_bmL {o e : Expr} {lo la : E} {m : Str} {id : String} {b : Bm} {apos pos : Pos} (slot : Slot "list" m id) (hty : typeOf (.builtin id) = pure (.type "method_descriptor")) (hb : bmT b = false)
    (hs : isSuper o = false) (hn : notStar e = true) (hl : (apos.endLine == pos.line) = true) (hok : ∀ σ, MOk X nm W σ b id)
    (ho : XE X nm W P call lo o) (ha : XE X nm W P call la e) : XE X nm W P call (.bm b lo [la]) (.Call (.Attribute o m apos) [e] [] pos) := fun as sl st σ H Q S hP => by
  rw [evE, hb] at hP
  have A : XA X nm W P call [la] [e] := xa_cons hn ha xa_nil
  refine wp_pe (pe_bm PySem.F.plainAttrs_list slot hty wmt_r pe_wp pa_wp (base_ok (super_no hs) m X.env) ?_ hl (star_ok hn _ X.env) rfl) ?_
  · rw [few_ok pos X.env (es := [e]) (by simp [hn])]
    rfl
  · refine ho as sl st σ H _ S (Post.seq hP fun x st1 as1 H1 v e1 S1 r1 hP1 => ?_)
    replace hP1 : Post X nm W (RpE X) σ as1 H1 (if (lstAt st1 x).isSome = true then (evEs P call [la] sl st1).bind fun xs st => bmD b x xs st else .bad) Q := hP1
    split at hP1
    · rename_i hsome
      refine ⟨lst_ty S1 hsome r1, ?_⟩
      refine A as1 sl st1 σ H1 _ (S.ev e1 S1) (Post.seq hP1 fun xs st2 as2 H2 vs e2 S2 r2 hP2 => ?_)
      exact hok σ S2 (Rep.ev S1.owns e2 _ _ r1) r2 hP2
    · exact hP1.elim
theorem xe_bmL0 {o : Expr} {lo : E} {m : Str} {id : String} {b : Bm} {apos pos : Pos} (slot : Slot "list" m id) (hty : typeOf (.builtin id) = pure (.type "method_descriptor")) (hb : bmT b = false)
    (hs : isSuper o = false) (hl : (apos.endLine == pos.line) = true) (hok : ∀ σ, MOk X nm W σ b id)
    (ho : XE X nm W P call lo o) : XE X nm W P call (.bm b lo []) (.Call (.Attribute o m apos) [] [] pos) := fun as sl st σ H Q S hP => by
  rw [evE, hb] at hP
  refine wp_pe (pe_bm0 PySem.F.plainAttrs_list slot hty wmt_r pe_wp (base_ok (super_no hs) m X.env) hl) ?_
  refine ho as sl st σ H _ S (Post.seq hP fun x st1 as1 H1 v e1 S1 r1 hP1 => ?_)
  replace hP1 : Post X nm W (RpE X) σ as1 H1 (if (lstAt st1 x).isSome = true then bmD b x [] st1 else .bad) Q := hP1
  split at hP1
  · rename_i hsome
    exact ⟨lst_ty S1 hsome r1, hok σ (xs := []) (us := []) S1 r1 rfl hP1⟩
  · exact hP1.elim
theorem m_append (σ : L2.St) : MOk X nm W σ .append "list.append" := fun {as H st x xs u us Q} S r1 r2 hP => by
  unfold bmD at hP
  split at hP <;> rename_i hb <;> first | (cases hb; done) | skip
  · obtain ⟨v, e, r3⟩ := reps_one r2
    subst e
    exact append_ok S r1 r3 hP
  · exact hP.elim
theorem m_index (hu : X.A.units + 65 < cLine) (σ : L2.St) : MOk X nm W σ .index "list.index" := fun {as H st x xs u us Q} S r1 r2 hP => by
  unfold bmD at hP
  split at hP <;> rename_i hb <;> first | (cases hb; done) | skip
  · obtain ⟨v, e, r3⟩ := reps_one r2
    subst e
    exact index_ok hu S r1 r3 hP
  · exact hP.elim
theorem m_extend (σ : L2.St) : MOk X nm W σ .extend "list.extend" := fun {as H st x xs u us Q} S r1 r2 hP => by
  unfold bmD at hP
  split at hP <;> rename_i hb <;> first | (cases hb; done) | skip
  · obtain ⟨v, e, r3⟩ := reps_one r2
    subst e
    exact extend_ok S r1 r3 hP
  · exact hP.elim
theorem m_clear (σ : L2.St) : MOk X nm W σ .clear "list.clear" := fun {as H st x xs u us Q} S r1 r2 hP => by
  unfold bmD at hP
  split at hP <;> rename_i hb <;> first | (cases hb; done) | skip
  · have e := r2.nil_inv
    subst e
    exact clear_ok S r1 hP
  · exact hP.elim
theorem m_reverse (σ : L2.St) : MOk X nm W σ .reverse "list.reverse" := fun {as H st x xs u us Q} S r1 r2 hP => by
  unfold bmD at hP
  split at hP <;> rename_i hb <;> first | (cases hb; done) | skip
  · have e := r2.nil_inv
    subst e
    exact reverse_ok S r1 hP
  · exact hP.elim
theorem m_pop (σ : L2.St) : MOk X nm W σ .pop "list.pop" := fun {as H st x xs u us Q} S r1 r2 hP => by
  unfold bmD at hP
  split at hP <;> rename_i hb <;> first | (cases hb; done) | skip
  · have e := r2.nil_inv
    subst e
    exact pop_ok S r1 hP
  · exact hP.elim
theorem xe_pop0 {o : Expr} {lo : E} {k : Nat} {p apos pos : Pos} (hs : isSuper o = false) (hl : (apos.endLine == pos.line) = true)
    (ho : XE X nm W P call lo o) : XE X nm W P call (.bm .pop0 lo []) (.Call (.Attribute o "pop" apos) [.Constant (.int 0) k p] [] pos) := fun as sl st σ H Q S hP => by
  rw [evE] at hP
  refine wp_pe (pe_bm PySem.F.plainAttrs_list PySem.F.slot_list_pop PySem.F.type_list_pop wmt_r pe_wp (pa_cons pe_int pa_nil rfl) (base_ok (super_no hs) _ X.env) rfl hl rfl rfl) ?_
  refine ho as sl st σ H _ S (Post.seq hP fun x st1 as1 H1 v e1 S1 r1 hP1 => ?_)
  replace hP1 : Post X nm W (RpE X) σ as1 H1 (if (lstAt st1 x).isSome = true then pop0D x st1 else .bad) Q := hP1
  split at hP1
  · rename_i hsome
    exact ⟨lst_ty S1 hsome r1, pop0_ok S1 r1 hP1⟩
  · exact hP1.elim
/-- d.get(k) -/
theorem xe_get (hu : X.A.units + 1 < cLine) {o e : Expr} {lo la : E} {apos pos : Pos} (hs : isSuper o = false) (hn : notStar e = true) (hl : (apos.endLine == pos.line) = true)
    (ho : XE X nm W P call lo o) (ha : XE X nm W P call la e) : XE X nm W P call (.bm .get lo [la]) (.Call (.Attribute o "get" apos) [e] [] pos) := fun as sl st σ H Q S hP => by
  rw [evE] at hP
  refine wp_pe (pe_dget1 hu pe_wp pe_wp ⟨base_ok (super_no hs) _ X.env, ?_, hl, ?_⟩) ?_
  · rw [few_ok pos X.env (es := [e]) (by simp [hn])]
    rfl
  · rw [star_ok hn]; rfl
  · refine ho as sl st σ H _ S (Post.seq hP fun x st1 as1 H1 v e1 S1 r1 hP1 => ?_)
    replace hP1 : Post X nm W (RpE X) σ as1 H1 (if (dicAt st1 x).isSome = true then ((evE P call la sl st1).bind fun y st => dgetD x y st) else .bad) Q := by
      have e0 : ((evEs P call [la] sl st1).bind fun xs st => bmD .get x xs st) = ((evE P call la sl st1).bind fun y st => dgetD x y st) := by
        rw [evEs, R.bind_assoc]
        rfl
      rw [← e0]
      exact hP1
    split at hP1
    · rename_i hsome
      obtain ⟨kvs, q⟩ := Option.isSome_iff_exists.mp hsome
      obtain ⟨i, p, e0, e2, hp, hd⟩ := dic_at S1 q r1
      refine ⟨p, e2, ?_, ?_⟩
      · rcases hd with ⟨_, ho, h1, h2⟩ | ⟨_, _, ob, ho, h1, h2⟩
        · rcases h2 with ⟨l, e, _⟩ | ⟨l, e, _⟩
          · subst e; exact .inl ⟨l, .inl h1⟩
          · subst e; exact .inr ⟨l, .inl h1⟩
        · rcases h2 with ⟨l, e, _⟩ | ⟨l, e, _⟩
          · subst e; exact .inl ⟨l, .inr ⟨ob, h1⟩⟩
          · subst e; exact .inr ⟨l, .inr ⟨ob, h1⟩⟩
      · refine Wp.post (Q := fun y H2 => ∃ H3, (∀ pins σ s, Inv X pins σ H2 s → Inv X pins σ H3 s) ∧ ∃ o, DGet H3 p y o ∧ Q (o.getD .non) H3) ?_ fun y H2 ⟨H3, h1, h2⟩ => ⟨H3, fun pins s I => h1 pins σ s I, h2⟩
        refine ha as1 sl st1 σ H1 _ (S.ev e1 S1) (Post.seq hP1 fun y st2 as2 H2 w e3 S2 r2 hP2 => ?_)
        unfold dgetD at hP2
        cases q2 : dicAt st2 x with
        | none => rw [q2] at hP2; exact hP2.elim
        | some kvs2 =>
          rw [q2] at hP2
          replace hP2 : Post X nm W (RpE X) σ as2 H2 (if keyOk kvs2 y then .ok ((getD kvs2 y).getD .non) st2 else .bad) Q := hP2
          split at hP2
          · rename_i hk
            obtain ⟨H3, p3, o, R, e4, hg, hv⟩ := dget_at S2 q2 (Rep.ev S1.owns e3 _ _ r1) hk r2
            rw [e2] at e4
            cases e4
            refine ⟨H3, R.inv, o, hg, hP2 _ _ _ R.ev R.st ?_⟩
            cases q3 : getD kvs2 y with
            | none => rw [q3] at hv; rw [hv]; exact rfl
            | some z => rw [q3] at hv; obtain ⟨t, e, hr⟩ := hv; rw [e]; exact hr
          · exact hP2.elim
    · exact hP1.elim
end
end Pu
end

section
set_option Elab.async false
set_option linter.all false
set_option maxRecDepth 100000
set_option maxHeartbeats 4000000
namespace Pu
open PySem PySem.Spec L2
variable [tb : Tb]
/-! what is walked -/
def WpI (X : Cx) (tg iter : Expr) : TI := fun σ H Rr => ∀ pins s, Inv X pins σ H s → wpAny (model X.prog X.w) X.A (eval iter X.env) (fun v s1 => wpAny (model X.prog X.w) X.A (pyIter v) (PIE X pins σ tg Rr) X.xe s1) X.xe s
theorem pi_wp {X : Cx} {tg iter : Expr} : PI X tg iter (WpI X tg iter) := ⟨fun pins s _ _ _ I h => h pins s I⟩
theorem wp_pi {X : Cx} {tg iter : Expr} {t : TI} {σ : L2.St} {H : Hp} {Q : It → Hp → Prop} (h : PI X tg iter t) (q : t σ H Q) : WpI X tg iter σ H Q := fun pins s I => h.run pins s σ H Q I q
/-- J gives xs, one by one, as long as what is walked stays -/
def Gives (X : Cx) (nm : List Str) (J : It) (as0 : List Addr) (H0 : Hp) (xs : List D) (src : List (Nat × O)) : Prop :=
  ∃ (G : Hp → Prop) (Y : Nat → Hp → V → Hp → Prop), L2.Walk J xs.length G Y ∧ (∀ as st H, Ev as0 H0 as H → StOk nm X.K X.mg as st H → stays st src = true → G H) ∧
    ∀ i as st H x H', i < xs.length → Ev as0 H0 as H → StOk nm X.K X.mg as st H → stays st src = true → Y i H x H' → ∃ d, xs[i]? = some d ∧ Ev as H as H' ∧ StOk nm X.K X.mg as st H' ∧ Rep X.K as H' d x
/-- what is locked, in the heap -/
def Lkd (X : Cx) (as : List Addr) (H0 : Hp) : Option (Nat × List (D × D)) → Prop
  | none => True
  | some (i, _) => ∃ p, as[i]? = some p ∧ (∀ o' u', X.H_0 p ≠ some (.frz o' u')) ∧ ∀ o' u', H0 p ≠ some (.frz o' u')
def PostI (X : Cx) (nm : List Str) (W : WX) (σ : L2.St) (as : List Addr) (H : Hp) (m : R Walk) (Q : It → Hp → Prop) : Prop := match m with
  | .ok w st => ∀ as' H0 H' J, Ev as H as' H0 → Ev as' H0 as' H' → StOk nm X.K X.mg as' (w.lock st) H' → Lkd X as' H0 w.lk → Gives X nm J as' H' w.xs w.src → Q J H'
  | .ex e st => ∀ as' H' cls d, Ev as H as' H' → StOk nm X.K X.mg as' st H' → ExF nm X.K X.mg as' H' e cls d → W cls d σ H'
  | .bad => False
def XI (X : Cx) (nm : List Str) (W : WX) (P : Prog) (call : Nat → List SV → Store → R D) (l : E) (tg e : Expr) : Prop := ∀ as sl st σ H Q, Sat X nm as sl st σ H → PostI X nm W σ as H (evI P call l sl st) Q → WpI X tg e σ H Q
section
variable {C : TC} {P : Prog} {call : Nat → List SV → Store → R D} {lvl : Nat} {X : Cx} {W : WX} {nm : List Str} {as as' : List Addr} {H H' : Hp} {st : Store} {sl : Slots} {σ : L2.St} {tg e : Expr}
theorem PostI.ev {m : R Walk} {Q : It → Hp → Prop} (h : PostI X nm W σ as H m Q) (e : Ev as H as' H') : PostI X nm W σ as' H' m Q := by
  cases m with
  | ok a s => exact fun as2 H0 H2 J e2 => h as2 H0 H2 J (e.trans e2)
  | ex x s => exact fun as2 H2 cls d e2 S r => h as2 H2 cls d (e.trans e2) S r
  | bad => exact h
theorem PostI.seq {α β : Type} {Rp : RpT α β} {m : R α} {k : α → Store → R Walk} {Q : It → Hp → Prop} {Q2 : β → Hp → Prop} (h : PostI X nm W σ as H (m.bind k) Q)
    (f : ∀ a s as1 H1 v, Ev as H as1 H1 → StOk nm X.K X.mg as1 s H1 → Rp as1 H1 a v → PostI X nm W σ as1 H1 (k a s) Q → Q2 v H1) : Post X nm W Rp σ as H m Q2 := by
  cases m with
  | ok a s => exact fun as1 H1 v e S r => f a s as1 H1 v e S r (PostI.ev (m := k a s) h e)
  | ex x s => exact h
  | bad => exact h
/-- nothing is locked -/
theorem PostI.plain {xs : List D} {src : List (Nat × O)} {Q : It → Hp → Prop} (h : PostI X nm W σ as H (.ok ⟨xs, src, none⟩ st) Q) (S : StOk nm X.K X.mg as st H) {J : It} (g : Gives X nm J as H xs src) : Q J H :=
  h as H H J (Ev.refl _ _) (Ev.refl _ _) S trivial g
/-! sources -/
theorem lst_src {d : D} {xs : List D} (h : lstAt st d = some xs) : ∃ i, d = .ptr i ∧ st[i]? = some (.lst xs) ∧ srcOf st d = [(i, .lst xs)] := by
  unfold lstAt obj at h
  cases d with
  | ptr i =>
    cases q0 : st[i]? with
    | none => simp [q0] at h
    | some o =>
      cases o with
      | lst ys =>
        simp [q0] at h
        subst h
        exact ⟨i, rfl, q0, by simp [srcOf, q0]⟩
      | _ => simp [q0] at h
  | _ => cases h
theorem stays_one {i : Nat} {o : O} {st : Store} : stays st [(i, o)] = true ↔ st[i]? = some o := by
  simp [stays]
/-- at a list that stays -/
theorem lst_there {i : Nat} {p : Addr} {xs : List D} (hp : as[i]? = some p) {as2 : List Addr} {st2 : Store} {H2 : Hp} (e : Ev as H as2 H2) (S : StOk nm X.K X.mg as2 st2 H2) (h : st2[i]? = some (.lst xs)) : ∃ us, H2 p = some (.lst us) ∧ Reps X.K as2 H2 xs us := S.at_ i _ p h (e.at hp)
theorem gives_lst {i : Nat} {p : Addr} {xs : List D} (hp : as[i]? = some p) : Gives X nm (Itl X.K p) as H xs [(i, .lst xs)] := by
  refine ⟨fun H => ∃ us, SqL X.K H p us ∧ us.length = xs.length, fun i H x H' => H' = H ∧ ∀ us, SqL X.K H p us → us[i]? = some x, ⟨fun j H1 hj ⟨us, h1, h2⟩ => ⟨us, us[j]'(by rw [h2]; exact hj), h1, List.getElem?_eq_getElem _⟩, fun H1 ⟨us, h1, h2⟩ => ⟨us, h1, by rw [h2]; exact Nat.le_refl _⟩, fun j H1 x H2 _ _ y => y⟩, fun as2 st2 H2 e S hs => ?_, fun j as2 st2 H2 x H3 hj e S hs y => ?_⟩
  · obtain ⟨us, h1, h2⟩ := lst_there hp e S (stays_one.mp hs)
    exact ⟨us, .inl (.inl h1), h2.length⟩
  · obtain ⟨us, h1, h2⟩ := lst_there hp e S (stays_one.mp hs)
    obtain ⟨rfl, hx⟩ := y
    have hx := hx us (.inl (.inl h1))
    obtain ⟨u, g1, g2⟩ := h2.get (i := j) (List.getElem?_eq_getElem hj)
    rw [g1] at hx
    cases hx
    exact ⟨xs[j], List.getElem?_eq_getElem hj, Ev.refl _ _, S, g2⟩
theorem gives_tup {p : Addr} {xs : List D} {us : List V} (w : Owns as H) (hp : H p = some (.tup us)) (r : Reps X.K as H xs us) : Gives X nm (Itt X.K p) as H xs [] := by
  have stay : ∀ {as2 : List Addr} {H2 : Hp}, Ev as H as2 H2 → H2 p = some (.tup us) := fun e => e.keep _ _ hp (w.no hp fun z => z) trivial
  refine ⟨fun H => SqT X.K H p us, YAt us, by rw [← r.length]; exact walk_tup, fun as2 st2 H2 e S hs => .inl (.inl (stay e)), fun j as2 st2 H2 x H3 hj e S hs y => ?_⟩
  obtain ⟨rfl, hx⟩ := y
  obtain ⟨u, g1, g2⟩ := (Reps.ev w e _ _ r).get (i := j) (List.getElem?_eq_getElem hj)
  rw [g1] at hx
  cases hx
  exact ⟨xs[j], List.getElem?_eq_getElem hj, Ev.refl _ _, S, g2⟩
theorem gives_scr {p : Addr} {ns : List Int} (w : Owns as H) (hp : SRl X.K H p (ns.map V.int)) : Gives X nm (Itl X.K p) as H (ns.map D.int) [] := by
  have stay : ∀ {as2 : List Addr} {H2 : Hp}, Ev as H as2 H2 → SRl X.K H2 p (ns.map V.int) := fun e => hp.ev w e
  refine ⟨fun H => SqL X.K H p (ns.map V.int), YAt (ns.map V.int), by rw [show (ns.map D.int).length = (ns.map V.int).length by simp]; exact walk_list, fun as2 st2 H2 e S hs => (stay e).sq, fun j as2 st2 H2 x H3 hj e S hs y => ?_⟩
  obtain ⟨rfl, hx⟩ := y
  rw [List.getElem?_map] at hx
  cases q : ns[j]? with
  | none => rw [q] at hx; cases hx
  | some n =>
    rw [q] at hx
    cases hx
    exact ⟨.int n, by rw [List.getElem?_map, q]; rfl, Ev.refl _ _, S, rfl⟩
theorem range_len (lo hi : Int) : (range lo hi).length = (hi - lo).toNat := by simp [range]
theorem range_at {lo hi : Int} {i : Nat} (h : i < (hi - lo).toNat) : (range lo hi)[i]? = some (.int (lo + (i : Nat))) := by
  unfold range
  rw [List.getElem?_map, List.getElem?_eq_getElem (by simpa using h)]
  simp
theorem gives_rng {lo hi : Int} {n : Nat} (hn : n = (hi - lo).toNat) : Gives X nm (Itr lo n) as H (range lo hi) [] := by
  subst hn
  refine ⟨fun _ => True, YFn fun i => .int (lo + i), by rw [range_len]; exact walk_range, fun _ _ _ _ _ _ => trivial, fun j as2 st2 H2 x H3 hj e S hs y => ?_⟩
  obtain ⟨rfl, rfl⟩ := y
  rw [range_len] at hj
  exact ⟨_, range_at hj, Ev.refl _ _, S, rfl⟩
theorem gives_str {s : Txt} (ok : okS s = true) : Gives X nm (Its (sOf s)) as H (s.map fun c => .str [c]) [] := by
  have hl : (s.map fun c => D.str [c]).length = (sOf s).cps.size := by simp [sOf]
  refine ⟨fun _ => True, fun i H v H' => H' = H ∧ ∃ c, (sOf s).cps[i]? = some c ∧ v = .str ⟨#[c]⟩, by rw [hl]; exact walk_str, fun _ _ _ _ _ _ => trivial, fun j as2 st2 H2 x H3 hj e S hs y => ?_⟩
  obtain ⟨rfl, c, hc, rfl⟩ := y
  have hc' : s[j]? = some c := by simpa [sOf] using hc
  refine ⟨.str [c], by rw [List.getElem?_map, hc']; rfl, Ev.refl _ _, S, ⟨rfl, ?_⟩⟩
  have := List.all_eq_true.mp ok c (List.mem_of_getElem? hc')
  simp only [okS, List.all_cons, List.all_nil, Bool.and_true]
  exact this
theorem enum_len : ∀ (k : Int) (xs : List D), (enum k xs).length = xs.length
  | _, [] => rfl
  | k, x :: xs => by rw [enum, List.length_cons, List.length_cons, enum_len]
theorem enum_at : ∀ (k : Int) (xs : List D) (i : Nat), (enum k xs)[i]? = xs[i]?.map fun x => .tup [.int (k + (i : Nat)), x]
  | _, [], i => by simp [enum]
  | k, x :: xs, 0 => by simp [enum]
  | k, x :: xs, i + 1 => by
    rw [enum, List.getElem?_cons_succ, List.getElem?_cons_succ, enum_at]
    congr 1
    funext y
    congr 3
    push_cast
    omega
/-- a new tuple laid -/
theorem laid_tup (S : StOk nm X.K X.mg as st H) {T : Addr} {ds : List D} {us : List V} (nT : H T = none) (r : Reps X.K as H ds us) : Ev as H as (upd H T (.tup us)) ∧ StOk nm X.K X.mg as st (upd H T (.tup us)) ∧ Rep X.K as (upd H T (.tup us)) (.tup ds) (.ref T) := by
  obtain ⟨S2, e2⟩ := S.laid (x := .tup us) nT
  exact ⟨e2, S2, T, us, rfl, upd_same, Reps.ev S.owns e2 _ _ r⟩
theorem gives_enum {i : Nat} {p : Addr} {xs : List D} (hp : as[i]? = some p) : Gives X nm (Ite X.K p) as H (enum 0 xs) [(i, .lst xs)] := by
  refine ⟨fun H => ∃ us, SqL X.K H p us ∧ us.length = xs.length, fun i H v H' => ∃ T x, v = .ref T ∧ H T = none ∧ H' = upd H T (.tup [.int (i : Nat), x]) ∧ ∀ us, SqL X.K H p us → us[i]? = some x, ⟨fun j H1 hj ⟨us, h1, h2⟩ => ⟨us, us[j]'(by rw [h2, ← enum_len 0]; exact hj), h1, List.getElem?_eq_getElem _⟩, fun H1 ⟨us, h1, h2⟩ => ⟨us, h1, by rw [h2, enum_len]; exact Nat.le_refl _⟩, fun j H1 x H2 _ _ y => y⟩, fun as2 st2 H2 e S hs => ?_, fun j as2 st2 H2 x H3 hj e S hs y => ?_⟩
  · obtain ⟨us, h1, h2⟩ := lst_there hp e S (stays_one.mp hs)
    exact ⟨us, .inl (.inl h1), h2.length⟩
  · obtain ⟨us, h1, h2⟩ := lst_there hp e S (stays_one.mp hs)
    obtain ⟨T, y, rfl, nT, rfl, hx⟩ := y
    have hx := hx us (.inl (.inl h1))
    rw [enum_len] at hj
    obtain ⟨u, g1, g2⟩ := h2.get (i := j) (List.getElem?_eq_getElem hj)
    rw [g1] at hx
    cases hx
    obtain ⟨a, b, c⟩ := laid_tup S (ds := [.int ((0 : Int) + (j : Nat)), xs[j]]) (us := [.int (j : Nat), y]) nT (Reps.cons (by show V.int _ = V.int _; rw [Int.zero_add]) (Reps.cons g2 rfl))
    exact ⟨_, by rw [enum_at, List.getElem?_eq_getElem hj]; rfl, a, b, c⟩
theorem zipD_len : ∀ (xs ys : List D), (zipD xs ys).length = min xs.length ys.length
  | [], ys => by simp [zipD]
  | x :: xs, [] => by simp [zipD]
  | x :: xs, y :: ys => by rw [zipD, List.length_cons, zipD_len, List.length_cons, List.length_cons]; omega
theorem zipD_at : ∀ (xs ys : List D) (i : Nat) (h1 : i < xs.length) (h2 : i < ys.length), (zipD xs ys)[i]? = some (.tup [xs[i], ys[i]])
  | x :: xs, y :: ys, 0, _, _ => rfl
  | x :: xs, y :: ys, i + 1, h1, h2 => by
    rw [zipD, List.getElem?_cons_succ, zipD_at xs ys i (by simpa using h1) (by simpa using h2)]
    rfl
theorem gives_zip {i k : Nat} {p q : Addr} {xs ys : List D} (hp : as[i]? = some p) (hq : as[k]? = some q) : Gives X nm (Itz X.K p q) as H (zipD xs ys) [(i, .lst xs), (k, .lst ys)] := by
  have two : ∀ {st : Store}, stays st [(i, .lst xs), (k, .lst ys)] = true → st[i]? = some (.lst xs) ∧ st[k]? = some (.lst ys) := by
    intro st h
    simpa [stays] using h
  refine ⟨fun H => ∃ us ws, SqL X.K H p us ∧ SqL X.K H q ws ∧ us.length = xs.length ∧ ws.length = ys.length, fun i H v H' => ∃ T x y, v = .ref T ∧ H T = none ∧ H' = upd H T (.tup [x, y]) ∧ (∀ us, SqL X.K H p us → us[i]? = some x) ∧ ∀ us, SqL X.K H q us → us[i]? = some y, ⟨fun j H1 hj ⟨us, ws, h1, h2, l1, l2⟩ => ?_, fun H1 ⟨us, ws, h1, h2, l1, l2⟩ => ⟨us, ws, h1, h2, ?_⟩, fun j H1 x H2 _ _ y => y⟩, fun as2 st2 H2 e S hs => ?_, fun j as2 st2 H2 x H3 hj e S hs y => ?_⟩
  · rw [zipD_len] at hj
    exact ⟨us, ws, us[j]'(by omega), ws[j]'(by omega), h1, h2, List.getElem?_eq_getElem _, List.getElem?_eq_getElem _⟩
  · rw [zipD_len]; omega
  · obtain ⟨s1, s2⟩ := two hs
    obtain ⟨us, h1, h2⟩ := lst_there hp e S s1
    obtain ⟨ws, h3, h4⟩ := lst_there hq e S s2
    exact ⟨us, ws, .inl (.inl h1), .inl (.inl h3), h2.length, h4.length⟩
  · obtain ⟨s1, s2⟩ := two hs
    obtain ⟨us, h1, h2⟩ := lst_there hp e S s1
    obtain ⟨ws, h3, h4⟩ := lst_there hq e S s2
    obtain ⟨T, y, z, rfl, nT, rfl, hx, hy⟩ := y
    have hx := hx us (.inl (.inl h1))
    have hy := hy ws (.inl (.inl h3))
    rw [zipD_len] at hj
    obtain ⟨u, g1, g2⟩ := h2.get (i := j) (List.getElem?_eq_getElem (show j < xs.length by omega))
    obtain ⟨w, g3, g4⟩ := h4.get (i := j) (List.getElem?_eq_getElem (show j < ys.length by omega))
    rw [g1] at hx
    rw [g3] at hy
    cases hx
    cases hy
    obtain ⟨a, b, c⟩ := laid_tup S (ds := [xs[j], ys[j]]) (us := [y, z]) nT (Reps.cons g2 (Reps.cons g4 rfl))
    exact ⟨_, zipD_at xs ys j _ _, a, b, c⟩
end
end Pu
end

section
set_option Elab.async false
set_option linter.all false
set_option maxRecDepth 100000
set_option maxHeartbeats 4000000
namespace Pu
open PySem PySem.Spec L2
variable [tb : Tb]
section
variable {C : TC} {P : Prog} {call : Nat → List SV → Store → R D} {lvl : Nat} {X : Cx} {W : WX} {nm : List Str} {as as' : List Addr} {H H' : Hp} {st : Store} {sl : Slots} {σ : L2.St} {tg e : Expr}
/-! locks -/
theorem Wp.postI {σ : L2.St} {H : Hp} {Q Q' : VK} (h : Wp X e σ H Q) (k : ∀ pins s v H1, Inv X pins σ H1 s → Q v H1 → ∃ H2, Inv X pins σ H2 s ∧ Q' v H2) : Wp X e σ H Q' := fun pins s I =>
  thn (h pins s I) fun u s' ⟨v, H1, I1, r, q⟩ => by
    obtain ⟨H2, k1, k2⟩ := k pins s' v H1 I1 q
    exact ⟨v, H2, k1, r, k2⟩
/-- what is told of the heap H' holds of H2 as well -/
def Unl (X : Cx) (H' H2 : Hp) : Prop := (∀ pins σ s, Inv X pins σ H' s → Inv X pins σ H2 s) ∧ ∀ q, H' q = none → H2 q = none
theorem Unl.refl (H : Hp) : Unl X H H := ⟨fun _ _ _ h => h, fun _ h => h⟩
theorem unlock_ok {w : Walk} {as0 : List Addr} {H0 : Hp} (S : StOk nm X.K X.mg as st H) (hk : Lkd X as0 H0 w.lk) (pre : ∃ t, as = as0 ++ t) (hs : w.held st = true) :
    ∃ H2, Unl X H H2 ∧ StOk nm X.K X.mg as (w.free st) H2 ∧ (∀ as1 H1, Ev as1 H1 as0 H0 → Ev as1 H1 as H → Ev as1 H1 as H2) ∧ Lk as H as H2 ∧ ∀ q, q ∉ as → H2 q = H q := by
  obtain ⟨xs, src, lk⟩ := w
  cases lk with
  | none => exact ⟨H, Unl.refl H, S, fun _ _ _ e => e, ⟨⟨[], by simp⟩, fun _ _ h _ _ => h⟩, fun _ _ => rfl⟩
  | some ik =>
    obtain ⟨i, kvs⟩ := ik
    obtain ⟨p, hp, n0, n1⟩ := (show ∃ p, as0[i]? = some p ∧ (∀ o' u', X.H_0 p ≠ some (.frz o' u')) ∧ ∀ o' u', H0 p ≠ some (.frz o' u') from hk)
    have hs : st[i]? = some (.frz kvs) := of_decide_eq_true hs
    obtain ⟨t, ht⟩ := pre
    have hp' : as[i]? = some p := by rw [ht, List.getElem?_append_left (List.getElem?_eq_some_iff.mp hp).1]; exact hp
    obtain ⟨ob, ho, h1, h2⟩ := (show ∃ ob ho, H p = some (.frz ob ho) ∧ DRep X.K as H kvs ho from S.at_ i _ p hs hp')
    refine ⟨upd H p ho, ⟨fun pins σ s I => I.unlock h1 n0, fun q hq => by rw [upd_ne (fun z => by rw [z, h1] at hq; cases hq)]; exact hq⟩, S.setL (o := .dic kvs) hs hp' fun e => ⟨ho, upd_same, h2.lk e⟩, fun as1 H1 e0 e => ⟨e.pre, fun q o h n z => ?_, e.new, fun q h => ?_, fun q o u hq h => ?_⟩, ⟨⟨[], by simp⟩, fun q o h n _ => ?_⟩, fun q hq => upd_ne fun z => hq (by rw [z]; exact List.mem_of_getElem? hp')⟩
    · rw [upd_ne fun zz => ?_]
      · exact e.keep q o h n z
      · have := e.new p (List.mem_of_getElem? hp') (by rw [← zz]; exact n)
        rw [← zz, h] at this
        cases this
    · by_cases hq : q = p
      · rw [hq, upd_same]; exact fun z => nomatch z
      · rw [upd_ne hq]; exact e.dom q h
    · rw [upd_ne fun zz => n1 o u (by rw [← zz]; exact e0.frz q o u hq h)]
      exact e.frz q o u hq h
    · rw [upd_ne fun z => n (by
        rw [z, h1] at h
        cases h
        rcases h2 with ⟨_, e, _⟩ | ⟨_, e, _⟩ <;> (subst e; exact trivial))]
      exact h
/-- a dict is locked -/
theorem lock_ok {i : Nat} {p : Addr} {kvs : List (D × D)} {pins : List (Addr × Obj)} {s : Shared} (S : StOk nm X.K X.mg as st H) (I : Inv X pins σ H s) (q0 : st[i]? = some (.dic kvs)) (hp : as[i]? = some p) :
    ∃ od ho, Inv X pins σ (upd H p (.frz od ho)) s ∧ Ev as H as (upd H p (.frz od ho)) ∧ StOk nm X.K X.mg as (st.set i (.frz kvs)) (upd H p (.frz od ho)) ∧ DRep X.K as (upd H p (.frz od ho)) kvs ho ∧ Lkd X as H (some (i, kvs)) := by
  obtain ⟨ho, h1, h2⟩ := (show ∃ ho, H p = some ho ∧ DRep X.K as H kvs ho from S.at_ i _ p q0 hp)
  have mu : Mut (some ho) := by rcases h2 with ⟨l, e, _⟩ | ⟨l, e, _⟩ <;> (subst e; exact trivial)
  obtain ⟨od, I2⟩ := I.lock h1 mu
  have ow : Own (.frz od ho) := by rcases h2 with ⟨l, e, _⟩ | ⟨l, e, _⟩ <;> (subst e; exact trivial)
  obtain ⟨S2, e2⟩ := S.set (x := .frz od ho) (o := .frz kvs) q0 hp ow fun e => ⟨od, ho, upd_same, h2.ev S.owns e⟩
  refine ⟨od, ho, I2, e2, S2, h2.ev S.owns e2, p, hp, I.nofrz h1 mu, fun o u z => ?_⟩
  rw [h1] at z
  cases z
  exact mu
theorem lock_okK {i : Nat} {p : Addr} {kvs : List (D × D)} {pins : List (Addr × Obj)} {s : Shared} (S : StOk nm X.K X.mg as st H) (I : Inv X pins σ H s) (q0 : st[i]? = some (.dic kvs)) (hp : as[i]? = some p) (hf : kvs.all (fun kv => flatK kv.1) = true) :
    ∃ od l, Inv X pins σ (upd H p (.frz od (.dK l))) s ∧ Ev as H as (upd H p (.frz od (.dK l))) ∧ StOk nm X.K X.mg as (st.set i (.frz kvs)) (upd H p (.frz od (.dK l))) ∧ DRepG keyK X.K as (upd H p (.frz od (.dK l))) kvs l ∧ Lkd X as H (some (i, kvs)) := by
  obtain ⟨ho, h1, h2⟩ := (show ∃ ho, H p = some ho ∧ DRep X.K as H kvs ho from S.at_ i _ p q0 hp)
  rcases h2 with ⟨l, e, r⟩ | ⟨l, e, r⟩
  · subst e
    obtain ⟨od, I2⟩ := I.lock h1 trivial
    obtain ⟨S2, e2⟩ := S.set (x := .frz od (.dK l)) (o := .frz kvs) q0 hp trivial fun e => ⟨od, .dK l, upd_same, .inl ⟨l, rfl, r.lk (e.lk S.owns)⟩⟩
    exact ⟨od, l, I2, e2, S2, r.lk (e2.lk S.owns), p, hp, I.nofrz h1 trivial, fun o u z => by rw [h1] at z; cases z⟩
  · have hn : kvs = [] := by
      cases kvs with
      | nil => rfl
      | cons kv kvs =>
        obtain ⟨k0, v0, r0, _, g1, _⟩ := (show ∃ k v r, l = (k, v) :: r ∧ keyT kv.1 = some k ∧ Rep X.K as H kv.2 v ∧ DRepG keyT X.K as H kvs r from r)
        obtain ⟨xs, ex⟩ := keyT_tup g1
        rw [List.all_cons, ex] at hf
        cases hf
    subst hn
    have hl : l = [] := r
    subst e hl
    obtain ⟨od, I2⟩ := (retagK I h1).lock upd_same trivial
    rw [upd_upd] at I2
    obtain ⟨S2, e2⟩ := S.set (x := .frz od (.dK [])) (o := .frz []) q0 hp trivial fun e => ⟨od, .dK [], upd_same, .inl ⟨[], rfl, rfl⟩⟩
    exact ⟨od, [], I2, e2, S2, rfl, p, hp, I.nofrz h1 trivial, fun o u z => by rw [h1] at z; cases z⟩
theorem frz_K {i : Nat} {p : Addr} {kv : D × D} {kvs : List (D × D)} (S : StOk nm X.K X.mg as st H) (q0 : st[i]? = some (.frz (kv :: kvs))) (hp : as[i]? = some p) (hf : (kv :: kvs).all (fun kv => flatK kv.1) = true) :
    ∃ od l, H p = some (.frz od (.dK l)) ∧ DRepG keyK X.K as H (kv :: kvs) l := by
  obtain ⟨ob, ho, h1, r3⟩ := (show ∃ ob ho, H p = some (.frz ob ho) ∧ DRep X.K as H (kv :: kvs) ho from S.at_ i _ p q0 hp)
  rcases r3 with ⟨l, el, r3⟩ | ⟨l, el, r3⟩
  · subst el; exact ⟨ob, l, h1, r3⟩
  · obtain ⟨k0, v0, r0, _, g1, _⟩ := (show ∃ k v r, l = (k, v) :: r ∧ keyT kv.1 = some k ∧ Rep X.K as H kv.2 v ∧ DRepG keyT X.K as H kvs r from r3)
    obtain ⟨xs, ex⟩ := keyT_tup g1
    rw [List.all_cons, ex] at hf
    cases hf
/-! dicts walked -/
theorem G_at {κ : Type} {key : D → Option κ} : ∀ {kvs : List (D × D)} {l : List (κ × V)} {i : Nat}, DRepG key X.K as H kvs l → i < kvs.length → ∃ kv k v, kvs[i]? = some kv ∧ l[i]? = some (k, v) ∧ key kv.1 = some k ∧ Rep X.K as H kv.2 v
  | [], l, i, _, hi => by cases hi
  | kv :: kvs, l, i, r, hi => by
    obtain ⟨k, v, r0, e, h1, h2, h3⟩ := (show ∃ k v r, l = (k, v) :: r ∧ key kv.1 = some k ∧ Rep X.K as H kv.2 v ∧ DRepG key X.K as H kvs r from r)
    subst e
    cases i with
    | zero => exact ⟨kv, k, v, rfl, rfl, h1, h2⟩
    | succ i => exact G_at (i := i) h3 (by simpa using hi)
theorem key_rep {d : D} {k : Key} (h : keyK d = some k) : Rep X.K as H d (kV k) := by
  rcases keyK_back h with ⟨i, e1, e2⟩ | ⟨s, e1, e2, ok⟩
  · subst e1 e2; exact rfl
  · subst e1 e2; exact ⟨rfl, ok⟩
theorem keys_rep : ∀ {ds : List D} {k : List Key}, keysK ds = some k → Reps X.K as H ds (k.map kV)
  | [], k, h => by cases h; exact rfl
  | d :: ds, k, h => by
    simp only [keysK] at h
    cases q : keyK d with
    | none => simp [q] at h
    | some k0 =>
      cases q1 : keysK ds with
      | none => simp [q, q1] at h
      | some ks =>
        simp [q, q1] at h
        subst h
        exact Reps.cons (key_rep q) (keys_rep q1)
section
variable {i : Nat} {p : Addr} {od : Obj} {kvs : List (D × D)}
theorem gives_keysK {l : List (Key × V)} (hp : as[i]? = some p) (h : H p = some (.frz od (.dK l))) (r : DRepG keyK X.K as H kvs l) : Gives X nm (Itk p od l) as H (kvs.map (·.1)) [(i, .frz kvs)] := by
  refine ⟨fun H => H p = some (.frz od (.dK l)), fun i H x H' => H' = H ∧ ∃ k v, l[i]? = some (k, v) ∧ x = kV k, by rw [List.length_map, ← len_G r]; exact walk_keys, fun as2 st2 H2 e S hs => e.frz _ _ _ (List.mem_of_getElem? hp) h, fun j as2 st2 H2 x H3 hj e S hs y => ?_⟩
  rw [List.length_map] at hj
  obtain ⟨rfl, k, v, h1, rfl⟩ := y
  obtain ⟨kv, k', v', g1, g2, g3, g4⟩ := G_at r hj
  rw [g2] at h1
  cases h1
  exact ⟨kv.1, by rw [List.getElem?_map, g1]; rfl, Ev.refl _ _, S, key_rep g3⟩
theorem gives_keysT {l : List (List Key × V)} (hp : as[i]? = some p) (h : H p = some (.frz od (.dT l))) (r : DRepG keyT X.K as H kvs l) : Gives X nm (Itkt p od l) as H (kvs.map (·.1)) [(i, .frz kvs)] := by
  refine ⟨fun H => H p = some (.frz od (.dT l)), fun i H x H' => H' = H ∧ ∃ (k : List Key) (v : V) (q : Addr), l[i]? = some (k, v) ∧ x = .ref q ∧ H q = some (.tup (k.map kV)), by rw [List.length_map, ← len_G r]; exact walk_keysT, fun as2 st2 H2 e S hs => e.frz _ _ _ (List.mem_of_getElem? hp) h, fun j as2 st2 H2 x H3 hj e S hs y => ?_⟩
  rw [List.length_map] at hj
  obtain ⟨rfl, k, v, q, h1, rfl, hq⟩ := y
  obtain ⟨kv, k', v', g1, g2, g3, g4⟩ := G_at r hj
  rw [g2] at h1
  cases h1
  obtain ⟨xs, ex⟩ := keyT_tup g3
  refine ⟨kv.1, by rw [List.getElem?_map, g1]; rfl, Ev.refl _ _, S, ?_⟩
  rw [ex] at g3 ⊢
  exact ⟨q, _, rfl, hq, keys_rep g3⟩
theorem gives_vals {l : List (Key × V)} (w : Owns as H) (hp : as[i]? = some p) (h : H p = some (.frz od (.dK l))) (r : DRepG keyK X.K as H kvs l) : Gives X nm (Itd p od l) as H (kvs.map (·.2)) [(i, .frz kvs)] := by
  refine ⟨fun H => H p = some (.frz od (.dK l)), fun i H x H' => H' = H ∧ ∃ k, l[i]? = some (k, x), by rw [List.length_map, ← len_G r]; exact walk_values, fun as2 st2 H2 e S hs => e.frz _ _ _ (List.mem_of_getElem? hp) h, fun j as2 st2 H2 x H3 hj e S hs y => ?_⟩
  rw [List.length_map] at hj
  obtain ⟨rfl, k, h1⟩ := y
  obtain ⟨kv, k', v', g1, g2, g3, g4⟩ := G_at r hj
  rw [g2] at h1
  cases h1
  exact ⟨kv.2, by rw [List.getElem?_map, g1]; rfl, Ev.refl _ _, S, Rep.ev w e _ _ g4⟩
theorem gives_items {l : List (Key × V)} (w : Owns as H) (hp : as[i]? = some p) (h : H p = some (.frz od (.dK l))) (r : DRepG keyK X.K as H kvs l) : Gives X nm (Iti p od l) as H (kvs.map fun kv => .tup [kv.1, kv.2]) [(i, .frz kvs)] := by
  refine ⟨fun H => H p = some (.frz od (.dK l)), _, by rw [List.length_map, ← len_G r]; exact walk_items, fun as2 st2 H2 e S hs => e.frz _ _ _ (List.mem_of_getElem? hp) h, fun j as2 st2 H2 x H3 hj e S hs y => ?_⟩
  rw [List.length_map] at hj
  obtain ⟨T, a, b, rfl, nT, rfl, ea, eb⟩ := y
  obtain ⟨kv, k', v', g1, g2, g3, g4⟩ := G_at r hj
  have ea : l[j]?.map (fun kv => kV kv.1) = some a := ea
  have eb : l[j]?.map Prod.snd = some b := eb
  rw [g2] at ea eb
  cases ea
  cases eb
  obtain ⟨c1, c2, c3⟩ := laid_tup S (ds := [kv.1, kv.2]) (us := [kV k', v']) nT (Reps.cons (key_rep g3) (Reps.cons (Rep.ev w e _ _ g4) rfl))
  exact ⟨_, by rw [List.getElem?_map, g1]; rfl, c1, c2, c3⟩
end
/-! the forms -/
theorem xi_itr {l : E} (h : XE X nm W P call l e) : XI X nm W P call (.itr l) tg e := fun as sl st σ H Q S hP => by
  rw [evI] at hP
  cases q : evE P call l sl st with
  | bad => rw [q] at hP; exact hP.elim
  | ex x s =>
    rw [q] at hP
    exact wp_pi (pi_tup pe_wp) (h as sl st σ H _ S (by rw [q]; exact hP))
  | ok d st1 =>
    rw [q, R.ok_bind] at hP
    have A : ∀ (Q2 : VK), (∀ as1 H1 v, Ev as H as1 H1 → StOk nm X.K X.mg as1 st1 H1 → Rep X.K as1 H1 d v → Q2 v H1) → Wp X e σ H Q2 := fun Q2 k => h as sl st σ H Q2 S (by rw [q]; exact k)
    have lst : ∀ {xs : List D} {w : Walk}, lstAt st1 d = some xs → PostI X nm W σ as H (.ok ⟨xs, srcOf st1 d, none⟩ st1) Q → WpI X tg e σ H Q := fun {xs w} hl hP => by
      refine wp_pi (pi_list pe_wp) (A _ fun as1 H1 v e1 S1 r1 => ?_)
      obtain ⟨i, p, us, e0, e2, q0, hp, h1, q1⟩ := lst_at S1 hl r1
      refine ⟨p, e2, ⟨us, .inl (.inl h1)⟩, PostI.plain (PostI.ev hP e1) S1 ?_⟩
      rw [e0, show srcOf st1 (.ptr i) = [(i, .lst xs)] by simp [srcOf, q0]]
      exact gives_lst hp
    cases d with
    | tup xs =>
      refine wp_pi (pi_tup pe_wp) (A _ fun as1 H1 v e1 S1 r1 => ?_)
      obtain ⟨p, us, e2, hp, r2⟩ := (show ∃ p us, v = .ref p ∧ H1 p = some (.tup us) ∧ Reps X.K as1 H1 xs us from r1)
      exact ⟨p, e2, ⟨us, .inl (.inl hp)⟩, PostI.plain (PostI.ev hP e1) S1 (gives_tup S1.owns hp r2)⟩
    | str s =>
      refine wp_pi (pi_str pe_wp) (A _ fun as1 H1 v e1 S1 r1 => ?_)
      obtain ⟨e2, ok⟩ := (show v = .str (sOf s) ∧ okS s = true from r1)
      exact ⟨sOf s, e2, PostI.plain (PostI.ev hP e1) S1 (gives_str ok)⟩
    | scr ns =>
      refine wp_pi (pi_list pe_wp) (A _ fun as1 H1 v e1 S1 r1 => ?_)
      obtain ⟨p, e2, h1⟩ := (show ∃ p, v = .ref p ∧ SRl X.K H1 p (ns.map V.int) from r1)
      exact ⟨p, e2, ⟨_, h1.sq⟩, PostI.plain (PostI.ev hP e1) S1 (gives_scr S1.owns h1)⟩
    | ptr i =>
      replace hP : PostI X nm W σ as H (match lstAt st1 (.ptr i) with
        | some xs => .ok ⟨xs, srcOf st1 (.ptr i), none⟩ st1
        | none => R.ofO (walkD (fun kvs => kvs.map (·.1)) st1 (.ptr i)) st1) Q := hP
      cases q1 : lstAt st1 (.ptr i) with
      | some xs => rw [q1] at hP; exact lst (w := ⟨[], [], none⟩) q1 hP
      | none =>
        rw [q1] at hP
        replace hP : PostI X nm W σ as H (R.ofO (match st1[i]? with
          | some (.dic kvs) => some ⟨kvs.map (·.1), [(i, .frz kvs)], some (i, kvs)⟩
          | some (.frz (kv :: kvs)) => some ⟨(kv :: kvs).map (·.1), [(i, .frz (kv :: kvs))], none⟩
          | _ => none) st1) Q := hP
        split at hP
        · rename_i kvs q0
          refine wp_pi (pi_keys pe_wp) ?_
          refine Wp.postI (A (fun v H1 => ∃ as1, Ev as H as1 H1 ∧ StOk nm X.K X.mg as1 st1 H1 ∧ Rep X.K as1 H1 (.ptr i) v) fun as1 H1 v e1 S1 r1 => ⟨as1, e1, S1, r1⟩) fun pins s v H1 I1 ⟨as1, e1, S1, r1⟩ => ?_
          obtain ⟨p, hp, e2⟩ := (show ∃ p, as1[i]? = some p ∧ v = .ref p from r1)
          obtain ⟨od, ho, I2, e3, S3, r3, lk⟩ := lock_ok S1 I1 q0 hp
          refine ⟨_, I2, p, od, e2, ?_⟩
          rcases r3 with ⟨l, el, r3⟩ | ⟨l, el, r3⟩
          · subst el
            exact .inl ⟨l, upd_same, hP as1 H1 _ _ e1 e3 S3 lk (gives_keysK hp upd_same r3)⟩
          · subst el
            exact .inr ⟨l, upd_same, hP as1 H1 _ _ e1 e3 S3 lk (gives_keysT hp upd_same r3)⟩
        · rename_i kv kvs q0
          refine wp_pi (pi_keys pe_wp) (A _ fun as1 H1 v e1 S1 r1 => ?_)
          obtain ⟨p, hp, e2⟩ := (show ∃ p, as1[i]? = some p ∧ v = .ref p from r1)
          obtain ⟨ob, ho, h1, r3⟩ := (show ∃ ob ho, H1 p = some (.frz ob ho) ∧ DRep X.K as1 H1 (kv :: kvs) ho from S1.at_ i _ p q0 hp)
          refine ⟨p, ob, e2, ?_⟩
          rcases r3 with ⟨l, el, r3⟩ | ⟨l, el, r3⟩
          · subst el
            exact .inl ⟨l, h1, PostI.plain (PostI.ev hP e1) S1 (gives_keysK hp h1 r3)⟩
          · subst el
            exact .inr ⟨l, h1, PostI.plain (PostI.ev hP e1) S1 (gives_keysT hp h1 r3)⟩
        · exact hP.elim
    | non => exact hP.elim
    | bl b => exact hP.elim
    | int b => exact hP.elim
theorem items_ok {f : List (D × D) → List D} {l : E} {t : TI} {Jf : Addr → Obj → List (Key × V) → It} (h : XE X nm W P call l e) (ht : ∀ σ H R, (Wp X e σ H fun x H1 => ∃ d o kvs, x = .ref d ∧ H1 d = some (.frz o (.dK kvs)) ∧ R (Jf d o kvs) H1) → t σ H R)
    (hg : ∀ {as : List Addr} {H : Hp} {i : Nat} {p : Addr} {od : Obj} {kvs : List (D × D)} {l : List (Key × V)}, Owns as H → as[i]? = some p → H p = some (.frz od (.dK l)) → DRepG keyK X.K as H kvs l → Gives X nm (Jf p od l) as H (f kvs) [(i, .frz kvs)])
    {as sl st σ H Q} (S : Sat X nm as sl st σ H) (hP : PostI X nm W σ as H ((evE P call l sl st).bind fun x st => R.ofO (walkF f st x) st) Q) : t σ H Q := by
  refine ht σ H Q ?_
  cases q : evE P call l sl st with
  | bad => rw [q] at hP; exact hP.elim
  | ex x s => rw [q] at hP; exact h as sl st σ H _ S (by rw [q]; exact hP)
  | ok d st1 =>
    rw [q, R.ok_bind] at hP
    have A : ∀ (Q2 : VK), (∀ as1 H1 v, Ev as H as1 H1 → StOk nm X.K X.mg as1 st1 H1 → Rep X.K as1 H1 d v → Q2 v H1) → Wp X e σ H Q2 := fun Q2 k => h as sl st σ H Q2 S (by rw [q]; exact k)
    cases d with
    | ptr i =>
      replace hP : PostI X nm W σ as H (R.ofO (match st1[i]? with
        | some (.dic kvs) => if kvs.all (fun kv => flatK kv.1) then some ⟨f kvs, [(i, .frz kvs)], some (i, kvs)⟩ else none
        | some (.frz (kv :: kvs)) => if (kv :: kvs).all (fun kv => flatK kv.1) then some ⟨f (kv :: kvs), [(i, .frz (kv :: kvs))], none⟩ else none
        | _ => none) st1) Q := hP
      split at hP
      · rename_i kvs q0
        by_cases hf : kvs.all (fun kv => flatK kv.1) = true
        · rw [if_pos hf] at hP
          refine Wp.postI (A (fun v H1 => ∃ as1, Ev as H as1 H1 ∧ StOk nm X.K X.mg as1 st1 H1 ∧ Rep X.K as1 H1 (.ptr i) v) fun as1 H1 v e1 S1 r1 => ⟨as1, e1, S1, r1⟩) fun pins s v H1 I1 ⟨as1, e1, S1, r1⟩ => ?_
          obtain ⟨p, hp, e2⟩ := (show ∃ p, as1[i]? = some p ∧ v = .ref p from r1)
          obtain ⟨od, l, I2, e3, S3, r3, lk⟩ := lock_okK S1 I1 q0 hp hf
          exact ⟨_, I2, p, od, l, e2, upd_same, hP as1 H1 _ _ e1 e3 S3 lk (hg S3.owns hp upd_same r3)⟩
        · rw [if_neg hf] at hP; exact hP.elim
      · rename_i kv kvs q0
        by_cases hf : (kv :: kvs).all (fun kv => flatK kv.1) = true
        · rw [if_pos hf] at hP
          refine A _ fun as1 H1 v e1 S1 r1 => ?_
          obtain ⟨p, hp, e2⟩ := (show ∃ p, as1[i]? = some p ∧ v = .ref p from r1)
          obtain ⟨od, l, h1, r3⟩ := frz_K S1 q0 hp hf
          exact ⟨p, od, l, e2, h1, PostI.plain (PostI.ev hP e1) S1 (hg S1.owns hp h1 r3)⟩
        · rw [if_neg hf] at hP; exact hP.elim
      · exact hP.elim
    | non => exact hP.elim
    | bl b => exact hP.elim
    | int b => exact hP.elim
    | str b => exact hP.elim
    | tup b => exact hP.elim
    | scr b => exact hP.elim
theorem xi_vals {l : E} {apos cpos : Pos} (h : XE X nm W P call l e) (hs : isSuper e = false) (hl : line1 apos cpos = true) : XI X nm W P call (.vals l) tg (.Call (.Attribute e "values" apos) [] [] cpos) := fun as sl st σ H Q S hP => by
  rw [evI] at hP
  exact wp_pi (pi_values pe_wp (base_ok (super_no hs) _ X.env) hl) (items_ok (t := iVals (Wp X e)) (Jf := Itd) h (fun _ _ _ h => h) gives_vals S hP)
theorem xi_items {l : E} {apos cpos tpos : Pos} {elts : List Expr} {kk : Nat} (h : XE X nm W P call l e) (hs : isSuper e = false) (hl : line1 apos cpos = true) : XI X nm W P call (.items l) (.Tuple elts kk tpos) (.Call (.Attribute e "items" apos) [] [] cpos) := fun as sl st σ H Q S hP => by
  rw [evI] at hP
  exact wp_pi (pi_items pe_wp (base_ok (super_no hs) _ X.env) hl) (items_ok (t := iItems (Wp X e)) (Jf := Iti) h (fun _ _ _ h => h) gives_items S hP)
theorem rngB_ok {i : Int} (h : rngB i = true) : -(2 ^ 62) ≤ i ∧ i < 2 ^ 62 := by
  unfold rngB at h
  simp only [Bool.and_eq_true, decide_eq_true_eq] at h
  omega
theorem xi_rng1 {l : E} {p pos : Pos} (hg : Gl X "range") (hm : X.mg "range" = none) (hn : notStar e = true) (h : XE X nm W P call l e) : XI X nm W P call (.rng1 l) tg (.Call (.Name "range" p) [e] [] pos) := fun as sl st σ H Q S hP => by
  rw [evI] at hP
  have hs : starEach [e] X.env = [(false, eval e X.env)] := star_ok hn [] X.env
  refine wp_pi (pi_range1 hg hm (pa_cons pe_wp pa_nil hs) hs) (h as sl st σ H _ S (PostI.seq hP fun x st1 as1 H1 v e1 S1 r1 hP1 => ?_))
  cases x with
  | int j =>
    cases r1
    replace hP1 : PostI X nm W σ as1 H1 (if rngB j then .ok ⟨range 0 j, [], none⟩ st1 else .bad) Q := hP1
    split at hP1
    · rename_i hb
      exact ⟨j, rfl, (rngB_ok hb).1, (rngB_ok hb).2, PostI.plain hP1 S1 (gives_rng (by rw [Int.sub_zero]))⟩
    · exact hP1.elim
  | _ => exact hP1.elim
theorem xi_rng2 {la lb : E} {a b : Expr} {p pos : Pos} (hg : Gl X "range") (hm : X.mg "range" = none) (hna : notStar a = true) (hnb : notStar b = true) (h1 : XE X nm W P call la a) (h2 : XE X nm W P call lb b) : XI X nm W P call (.rng2 la lb) tg (.Call (.Name "range" p) [a, b] [] pos) := fun as sl st σ H Q S hP => by
  rw [evI] at hP
  have hs2 : starEach [b] X.env = [(false, eval b X.env)] := star_ok hnb [] X.env
  have hs : starEach [a, b] X.env = [(false, eval a X.env), (false, eval b X.env)] := by rw [star_ok hna [b] X.env, hs2]
  refine wp_pi (pi_range2 hg hm (pa_cons pe_wp (pa_cons pe_wp pa_nil (by rw [hs2] <;> rfl)) (by rw [hs, hs2])) hs hs2) ?_
  refine h1 as sl st σ H _ S (PostI.seq hP fun x st1 as1 H1 v e1 S1 r1 hP1 => ?_)
  refine h2 as1 sl st1 σ H1 _ (S.ev e1 S1) (PostI.seq hP1 fun y st2 as2 H2 u e2 S2 r2 hP2 => ?_)
  cases x with
  | int i =>
    cases y with
    | int j =>
      cases r1
      cases r2
      replace hP2 : PostI X nm W σ as2 H2 (if (rngB i && rngB j) = true then .ok ⟨range i j, [], none⟩ st2 else .bad) Q := hP2
      split at hP2
      · rename_i hb
        obtain ⟨b1, b2⟩ := Bool.and_eq_true_iff.mp hb
        exact ⟨i, j, rfl, ⟨(rngB_ok b1).1, (rngB_ok b1).2, (rngB_ok b2).1, (rngB_ok b2).2⟩, PostI.plain hP2 S2 (gives_rng rfl)⟩
      · exact hP2.elim
    | _ => exact hP2.elim
  | _ => exact hP2.elim
theorem xi_enm {l : E} {p pos tpos : Pos} {elts : List Expr} {kk : Nat} (hg : Gl X "enumerate") (hm : X.mg "enumerate" = none) (hn : notStar e = true) (h : XE X nm W P call l e) : XI X nm W P call (.enm l) (.Tuple elts kk tpos) (.Call (.Name "enumerate" p) [e] [] pos) := fun as sl st σ H Q S hP => by
  rw [evI] at hP
  have hs : starEach [e] X.env = [(false, eval e X.env)] := star_ok hn [] X.env
  refine wp_pi (pi_enum hg hm (pa_cons pe_wp pa_nil hs) hs) (h as sl st σ H _ S (PostI.seq hP fun x st1 as1 H1 v e1 S1 r1 hP1 => ?_))
  cases q : lstAt st1 x with
  | none => rw [q] at hP1; exact hP1.elim
  | some xs =>
    rw [q] at hP1
    obtain ⟨i, a, us, e0, e2, q0, hp, h1, q1⟩ := lst_at S1 q r1
    refine ⟨a, us, by rw [e2], .inl (.inl h1), PostI.plain hP1 S1 ?_⟩
    rw [e0, show srcOf st1 (.ptr i) = [(i, .lst xs)] by simp [srcOf, q0]]
    exact gives_enum hp
theorem xi_zip2 {la lb : E} {a b : Expr} {p pos tpos : Pos} {elts : List Expr} {kk : Nat} (hg : Gl X "zip") (hm : X.mg "zip" = none) (hna : notStar a = true) (hnb : notStar b = true) (h1 : XE X nm W P call la a) (h2 : XE X nm W P call lb b) : XI X nm W P call (.zip2 la lb) (.Tuple elts kk tpos) (.Call (.Name "zip" p) [a, b] [] pos) := fun as sl st σ H Q S hP => by
  rw [evI] at hP
  have hs2 : starEach [b] X.env = [(false, eval b X.env)] := star_ok hnb [] X.env
  have hs : starEach [a, b] X.env = [(false, eval a X.env), (false, eval b X.env)] := by rw [star_ok hna [b] X.env, hs2]
  refine wp_pi (pi_zip hg hm (pa_cons pe_wp (pa_cons pe_wp pa_nil (by rw [hs2] <;> rfl)) (by rw [hs, hs2])) (by rw [hs, hs2]) (by rw [hs2] <;> rfl)) ?_
  refine h1 as sl st σ H _ S (PostI.seq hP fun x st1 as1 H1 v e1 S1 r1 hP1 => ?_)
  refine h2 as1 sl st1 σ H1 _ (S.ev e1 S1) (PostI.seq hP1 fun y st2 as2 H2 u e2 S2 r2 hP2 => ?_)
  cases q1 : lstAt st2 x with
  | none => rw [q1] at hP2; exact hP2.elim
  | some xs =>
    cases q2 : lstAt st2 y with
    | none => rw [q1, q2] at hP2; exact hP2.elim
    | some ys =>
      rw [q1, q2] at hP2
      obtain ⟨i, a1, us, e0, e3, q0, hp, g1, _⟩ := lst_at S2 q1 (Rep.ev S1.owns e2 _ _ r1)
      obtain ⟨k, a2, ws, e4, e5, q5, hq, g2, _⟩ := lst_at S2 q2 r2
      refine ⟨a1, a2, us, ws, by rw [e3, e5], .inl (.inl g1), .inl (.inl g2), PostI.plain hP2 S2 ?_⟩
      rw [e0, e4, show srcOf st2 (.ptr i) = [(i, .lst xs)] by simp [srcOf, q0], show srcOf st2 (.ptr k) = [(k, .lst ys)] by simp [srcOf, q5]]
      exact gives_zip hp hq
end
end Pu
end

section
set_option Elab.async false
set_option linter.all false
set_option maxRecDepth 100000
set_option maxHeartbeats 4000000
namespace Pu
open PySem PySem.Spec L2
variable [tb : Tb]
/-! targets -/
def WpG (X : Cx) (tg : Expr) : TG := fun v σ H Q => ∀ pins s, Inv X pins σ H s → ∀ u, RelV v u → wpAny (model X.prog X.w) X.A (PySem.assign tg X.env u) (fun _ s' => ∃ σ' H', Inv X pins σ' H' s' ∧ Q σ' H') X.xe s
theorem pg_wp {X : Cx} {tg : Expr} : PG X tg (WpG X tg) := ⟨fun pins s σ H v u Q I r h => h pins s I u r⟩
def But (is : List Nat) (σ σ' : L2.St) : Prop := σ'.length = σ.length ∧ ∀ k, k ∉ is → σ'[k]? = σ[k]?
theorem But.refl (σ : L2.St) : But [] σ σ := ⟨rfl, fun _ _ => rfl⟩
theorem But.trans {a b : List Nat} {σ σ' σ2 : L2.St} (h : But a σ σ') (h2 : But b σ' σ2) : But (a ++ b) σ σ2 := ⟨h2.1.trans h.1, fun k hk => (h2.2 k fun z => hk (List.mem_append_right _ z)).trans (h.2 k fun z => hk (List.mem_append_left _ z))⟩
/-- the names of a scope that may be stored to -/
def Tgs (C : TC) (X : Cx) (sc : Scope) : Prop := X.N = C.N ∧ X.N.Nodup ∧ ∀ x, isLoc sc x = true → L2.Loc X.env.scope x ∧ (X.fn x = true ∨ X.env.scope.names.lookup x = some .local)
section
variable {C : TC} {P : Prog} {call : Nat → List SV → Store → R D} {lvl : Nat} {X : Cx} {W : WX} {nm : List Str} {as as' : List Addr} {H H' : Hp} {st : Store} {sl sl' : Slots} {σ σ' : L2.St} {tg e : Expr} {sc : Scope}
theorem slotL_at (T : Tgs C X sc) {x : Str} {i : Nat} (h : slotL C sc x = some i) : X.N[i]? = some x ∧ L2.Loc X.env.scope x ∧ (X.fn x = true ∨ X.env.scope.names.lookup x = some .local) := by
  unfold slotL at h
  split at h
  · rename_i q
    rw [Bool.and_eq_true] at q
    obtain ⟨a, b⟩ := T.2.2 x q.1
    exact ⟨by rw [T.1]; exact idx_at h, a, b⟩
  · cases h
theorem tgs_len : ∀ {ts : List Expr} {tt : List Tg}, tgsOf C sc ts = some tt → tt.length = ts.length ∧ (∀ env, (assignEach ts env).length = ts.length) ∧ ∀ env, (assignEach ts env).findIdx? (·.1) = none
  | [], tt, h => by cases h; exact ⟨rfl, fun _ => rfl, fun _ => rfl⟩
  | t :: ts, tt, h => by
    obtain ⟨a, h1, h2⟩ := Option.bind_eq_some_iff.mp (show (tgOf C sc t).bind (fun a => (tgsOf C sc ts).map fun as => a :: as) = some tt from h)
    obtain ⟨as1, h3, h4⟩ := Option.map_eq_some_iff.mp h2
    subst h4
    obtain ⟨l1, l2, l3⟩ := tgs_len h3
    have e : ∀ env, assignEach (t :: ts) env = (false, PySem.assign t env) :: assignEach ts env := fun env => by cases t <;> first | rfl | cases h1
    refine ⟨by rw [List.length_cons, List.length_cons, l1], fun env => by rw [e, List.length_cons, List.length_cons, l2], fun env => ?_⟩
    rw [e, List.findIdx?_cons, l3]
    rfl
theorem assigns_len : ∀ {tt : List Tg} {ds : List D} {sl sl' : Slots}, assigns tt ds sl = some sl' → tt.length = ds.length
  | [], [], _, _, _ => rfl
  | [], _ :: _, _, _, h => by cases h
  | _ :: _, [], _, _, h => by cases h
  | t :: tt, d :: ds, sl, sl', h => by
    obtain ⟨sl1, _, h6⟩ := Option.bind_eq_some_iff.mp (show (assign t d sl).bind (assigns tt ds) = some sl' from h)
    rw [List.length_cons, List.length_cons, assigns_len h6]
mutual
theorem xg_ok (hc : X.calm = true) (T : Tgs C X sc) : ∀ (tg : Expr) (t : Tg), tgOf C sc tg = some t → ∀ {as sl st σ H d v sl' Q}, Sat X nm as sl st σ H → Rep X.K as H d v → assign t d sl = some sl' → (∀ σ', Sat X nm as sl' st σ' H → But t.ixs σ σ' → Q σ' H) → WpG X tg v σ H Q
  | .Name x pos, t, ht, as, sl, st, σ, H, d, v, sl', Q, S, r, ha, k => by
    obtain ⟨i, hi, e⟩ := Option.map_eq_some_iff.mp (show (slotL C sc x).map Tg.nm = some t from ht)
    subst e
    cases ha
    obtain ⟨h1, h2, h3⟩ := slotL_at T hi
    exact fun pins s I u ru => (pg_name (i := i) T.2.1 h1 h2 h3).run pins s σ H v u Q I ru (k _ (S.set i (x := .d d) r) ⟨List.length_set, fun j hj => List.getElem?_set_ne fun e => hj (by rw [e]; exact List.mem_singleton.mpr rfl)⟩)
  | .Tuple ts kk pos, t, ht, as, sl, st, σ, H, d, v, sl', Q, S, r, ha, k => by
    obtain ⟨tt, hts, e⟩ := Option.map_eq_some_iff.mp (show (tgsOf C sc ts).map Tg.tp = some t from ht)
    subst e
    cases d with
    | tup ds =>
      obtain ⟨p, us, e2, hp, r2⟩ := (show ∃ p us, v = .ref p ∧ H p = some (.tup us) ∧ Reps X.K as H ds us from r)
      subst e2
      obtain ⟨l1, l2, l3⟩ := tgs_len hts
      have l4 := assigns_len ha
      have pgs : PGs X ts fun vs σ2 H2 Q2 => σ2 = σ ∧ H2 = H ∧ vs = us ∧ ∀ σ', Sat X nm as sl' st σ' H → But (Tg.ixss tt) σ σ' → Q2 σ' H := ⟨fun pins s σ2 H2 vs us' Q2 I2 ru ⟨e1, e2, e3, q⟩ => by
        subst e1 e2 e3
        exact xgs_ok hc T ts tt hts S r2 ha q pins s I2 us' ru⟩
      exact fun pins s I u ru => (pg_tup hc pgs rfl (l3 X.env)).run pins s σ H _ u Q I ru ⟨p, us, rfl, .inl (.inl hp), by rw [r2.length, ← l4, l1, l2], rfl, rfl, rfl, k⟩
    | _ => cases ha
  | .BoolOp _ _ _, t, ht, _, _, _, _, _, _, _, _, _, _, _, _, _ => by cases ht
  | .NamedExpr _ _ _, t, ht, _, _, _, _, _, _, _, _, _, _, _, _, _ => by cases ht
  | .BinOp _ _ _ _, t, ht, _, _, _, _, _, _, _, _, _, _, _, _, _ => by cases ht
  | .UnaryOp _ _ _, t, ht, _, _, _, _, _, _, _, _, _, _, _, _, _ => by cases ht
  | .Lambda _ _ _ _, t, ht, _, _, _, _, _, _, _, _, _, _, _, _, _ => by cases ht
  | .IfExp _ _ _ _, t, ht, _, _, _, _, _, _, _, _, _, _, _, _, _ => by cases ht
  | .Dict _ _ _, t, ht, _, _, _, _, _, _, _, _, _, _, _, _, _ => by cases ht
  | .Set _ _ _, t, ht, _, _, _, _, _, _, _, _, _, _, _, _, _ => by cases ht
  | .ListComp _ _ _ _, t, ht, _, _, _, _, _, _, _, _, _, _, _, _, _ => by cases ht
  | .SetComp _ _ _ _, t, ht, _, _, _, _, _, _, _, _, _, _, _, _, _ => by cases ht
  | .DictComp _ _ _ _ _, t, ht, _, _, _, _, _, _, _, _, _, _, _, _, _ => by cases ht
  | .GeneratorExp _ _ _ _, t, ht, _, _, _, _, _, _, _, _, _, _, _, _, _ => by cases ht
  | .Await _ _, t, ht, _, _, _, _, _, _, _, _, _, _, _, _, _ => by cases ht
  | .Yield _ _, t, ht, _, _, _, _, _, _, _, _, _, _, _, _, _ => by cases ht
  | .YieldFrom _ _, t, ht, _, _, _, _, _, _, _, _, _, _, _, _, _ => by cases ht
  | .Compare _ _ _ _, t, ht, _, _, _, _, _, _, _, _, _, _, _, _, _ => by cases ht
  | .Call _ _ _ _, t, ht, _, _, _, _, _, _, _, _, _, _, _, _, _ => by cases ht
  | .FormattedValue _ _ _ _, t, ht, _, _, _, _, _, _, _, _, _, _, _, _, _ => by cases ht
  | .JoinedStr _ _, t, ht, _, _, _, _, _, _, _, _, _, _, _, _, _ => by cases ht
  | .Constant _ _ _, t, ht, _, _, _, _, _, _, _, _, _, _, _, _, _ => by cases ht
  | .Attribute _ _ _, t, ht, _, _, _, _, _, _, _, _, _, _, _, _, _ => by cases ht
  | .Subscript _ _ _, t, ht, _, _, _, _, _, _, _, _, _, _, _, _, _ => by cases ht
  | .Starred _ _, t, ht, _, _, _, _, _, _, _, _, _, _, _, _, _ => by cases ht
  | .List _ _, t, ht, _, _, _, _, _, _, _, _, _, _, _, _, _ => by cases ht
  | .Slice _ _ _ _, t, ht, _, _, _, _, _, _, _, _, _, _, _, _, _ => by cases ht
theorem xgs_ok (hc : X.calm = true) (T : Tgs C X sc) : ∀ (ts : List Expr) (tt : List Tg), tgsOf C sc ts = some tt → ∀ {as sl st σ H ds vs sl'} {Q : L2.St → Hp → Prop}, Sat X nm as sl st σ H → Reps X.K as H ds vs → assigns tt ds sl = some sl' → (∀ σ', Sat X nm as sl' st σ' H → But (Tg.ixss tt) σ σ' → Q σ' H) →
    ∀ pins s, Inv X pins σ H s → ∀ us, Vals vs us → wpAny (model X.prog X.w) X.A (assignInOrder ((assignEach ts X.env).map (·.2)) us) (fun _ s' => ∃ σ' H', Inv X pins σ' H' s' ∧ Q σ' H') X.xe s
  | [], tt, ht, as, sl, st, σ, H, ds, vs, sl', Q, S, r, ha, k => by
    cases ht
    cases ds with
    | nil =>
      cases ha
      have e : vs = [] := r
      subst e
      exact fun pins s I us ru => pgs_nil.run pins s σ H [] us Q I ru ⟨rfl, k σ S (But.refl σ)⟩
    | cons d ds => cases ha
  | t :: ts, tt, ht, as, sl, st, σ, H, ds, vs, sl', Q, S, r, ha, k => by
    obtain ⟨a, h1, h2⟩ := Option.bind_eq_some_iff.mp (show (tgOf C sc t).bind (fun a => (tgsOf C sc ts).map fun as => a :: as) = some tt from ht)
    obtain ⟨as1, h3, h4⟩ := Option.map_eq_some_iff.mp h2
    subst h4
    cases ds with
    | nil => cases ha
    | cons d ds =>
      obtain ⟨u, w, e, r1, r2⟩ := r.inv
      subst e
      obtain ⟨sl1, h5, h6⟩ := Option.bind_eq_some_iff.mp (show (assign a d sl).bind (assigns as1 ds) = some sl' from ha)
      have hs : (assignEach (t :: ts) X.env).map (·.2) = PySem.assign t X.env :: (assignEach ts X.env).map (·.2) := by
        cases t <;> first | rfl | cases h1
      intro pins s I us ru
      cases ru with
      | cons ru rr =>
        rw [hs]
        refine PyProof.Rows.assignInOrder_cons (thn (xg_ok hc T t a h1 (Q := fun σ1 H1 => H1 = H ∧ Sat X nm as sl1 st σ1 H ∧ But a.ixs σ σ1) S r1 h5 (fun σ1 S1 b1 => ⟨rfl, S1, b1⟩) pins s I _ ru) fun _ s1 ⟨σ1, H1, I1, e1, S1, b1⟩ => ?_)
        subst e1
        exact xgs_ok hc T ts as1 h3 S1 r2 h6 (fun σ2 S2 b2 => k σ2 S2 (b1.trans b2)) pins s1 I1 _ rr
end
end
end Pu
end

section
set_option Elab.async false
set_option linter.all false
set_option maxRecDepth 100000
set_option maxHeartbeats 4000000
namespace Pu
open PySem PySem.Spec L2
variable [tb : Tb]
abbrev W0 : WX := fun _ _ _ _ => False
section
variable {C : TC} {P : Prog} {call : Nat → List SV → Store → R D} {lvl : Nat} {X : Cx} {W : WX} {nm : List Str} {as as' : List Addr} {H H' : Hp} {st : Store} {sl sl' : Slots} {σ σ' : L2.St} {tg iter elt e : Expr} {sc scope : Scope} {ifs : List Expr} {own : List (Str × Nat)} {pos : Pos}
theorem noX_at {i : Nat} {x : SV} (h : (noX sl)[i]? = some (some x)) : sl[i]? = some (some x) ∧ ∃ d, x = .d d := by
  unfold noX at h
  rw [List.getElem?_map] at h
  cases q : sl[i]? with
  | none => rw [q] at h; cases h
  | some o =>
    rw [q] at h
    cases o with
    | none => cases h
    | some y =>
      cases y with
      | d d => cases h; exact ⟨rfl, d, rfl⟩
      | x e => cases h
theorem noX_len : (noX sl).length = sl.length := by simp [noX]
/-- the slots without exceptions, in any context of the program -/
theorem Sat.noX_ {Y : Cx} (hK : Y.K = X.K) (hm : Y.mg = X.mg) (S : Sat X nm as sl st σ H) : Sat Y nm as (noX sl) st σ H := by
  refine ⟨by rw [hK, hm]; exact S.st, by rw [noX_len]; exact S.len, fun i x hx => ?_⟩
  obtain ⟨h1, d, e⟩ := noX_at hx
  subst e
  obtain ⟨v, g1, g2⟩ := S.slo i _ h1
  exact ⟨v, g1, by show Rep Y.K as H d v; rw [hK]; exact g2⟩
theorem Sat.wipe_ (S : Sat X nm as sl st σ H) : ∀ vs : List Nat, Sat X nm as (wipe sl vs) st (L2.wipe σ vs) H
  | [] => S
  | v :: vs => (S.wipe_ vs).unset v (v := none)
theorem wipe_at {k : Nat} : ∀ {vs : List Nat}, k ∈ vs → (L2.wipe σ vs)[k]? = if k < σ.length then some none else none
  | v :: vs, h => by
    show ((L2.wipe σ vs).set v none)[k]? = _
    by_cases hk : v = k
    · subst hk
      by_cases hl : v < σ.length
      · rw [if_pos hl, List.getElem?_set_self (by rw [wipe_length]; exact hl)]
      · rw [if_neg hl]
        exact List.getElem?_eq_none (by rw [List.length_set, wipe_length]; omega)
    · rw [List.getElem?_set_ne hk]
      rcases List.mem_cons.mp h with e | e
      · exact (hk e.symm).elim
      · exact wipe_at e
theorem wipe_off {k : Nat} : ∀ {vs : List Nat}, k ∉ vs → (L2.wipe σ vs)[k]? = σ[k]?
  | [], _ => rfl
  | v :: vs, h => by
    show ((L2.wipe σ vs).set v none)[k]? = _
    rw [List.getElem?_set_ne fun e => h (by rw [e]; exact List.mem_cons_self)]
    exact wipe_off fun z => h (List.mem_cons_of_mem _ z)
theorem wipe_but {vs : List Nat} (h : ∀ k, k ∉ vs → σ'[k]? = σ[k]?) (hl : σ'.length = σ.length) : L2.wipe σ' vs = L2.wipe σ vs := by
  refine List.ext_getElem? fun k => ?_
  by_cases hk : k ∈ vs
  · rw [wipe_at hk, wipe_at hk, hl]
  · rw [wipe_off hk, wipe_off hk]
    exact h k hk
theorem wipe_wipe {vs : List Nat} : L2.wipe (L2.wipe σ vs) vs = L2.wipe σ vs := by
  refine List.ext_getElem? fun k => ?_
  by_cases hk : k ∈ vs
  · rw [wipe_at hk, wipe_at hk, wipe_length]
  · rw [wipe_off hk]
/-! tests -/
def WpTs (X : Cx) (ifs : List Expr) : TT := fun σ H Q => ∃ t, PTs X ifs t ∧ t σ H Q
theorem pts_wp {X : Cx} {ifs : List Expr} : PTs X ifs (WpTs X ifs) := ⟨fun pins s σ H Q I ⟨_, h, q⟩ => h.run pins s σ H Q I q⟩
def XTs (X : Cx) (nm : List Str) (W : WX) (P : Prog) (call : Nat → List SV → Store → R D) (ls : List E) (ifs : List Expr) : Prop := ∀ as sl st σ H Q, Sat X nm as sl st σ H → Post X nm W RpB σ as H (evTs P call ls sl st) Q → WpTs X ifs σ H Q
theorem xts_nil : XTs X nm W P call [] [] := fun as sl st σ H Q S hP => ⟨_, pts_nil, hP.val S.st rfl⟩
theorem evTs_one {l : E} : evTs P call [l] sl st = evT P call l sl st := by
  unfold evT
  rw [evTs]
  congr 1
  funext x s
  cases q : truth s x with
  | none => rfl
  | some k => cases k <;> simp [R.ofO, evTs]
theorem xts_one {l : E} {t : Expr} (h : XT X nm W P call l t) : XTs X nm W P call [l] [t] := fun as sl st σ H Q S hP => ⟨_, pts_one pt_wp, h as sl st σ H Q S (by rw [← evTs_one]; exact hP)⟩
/-! the block -/
abbrev Bk (X : Cx) (scope : Scope) (s : Shared) (H : Hp) (C : Addr) (cl : List (Str × Addr)) (fp : List Addr) : Cx := X.blk s H scope (compEnvC scope cl C X.env) fp
def gBk (X : Cx) (scope : Scope) (tg : Expr) : TG := fun v σ H Q => ∀ s H0 C cl fp, WpG (Bk X scope s H0 C cl fp) tg v σ H Q
def tBk (X : Cx) (scope : Scope) (ifs : List Expr) : TT := fun σ H Q => ∀ s H0 C cl fp, WpTs (Bk X scope s H0 C cl fp) ifs σ H Q
def eBk (X : Cx) (scope : Scope) (elt : Expr) : TE := fun σ H Q => ∀ s H0 C cl fp, Wp (Bk X scope s H0 C cl fp) elt σ H Q
theorem compL_stays {f : D → Store → R (Option D)} {src : List (Nat × O)} {xs acc : List D} (h : compL f src xs acc st ≠ .bad) : stays st src = true := by
  cases xs with
  | nil =>
    unfold compL at h
    split at h
    · assumption
    · exact (h rfl).elim
  | cons x xs =>
    unfold compL at h
    split at h
    · assumption
    · exact (h rfl).elim
theorem compL_noex {f : D → Store → R (Option D)} {src : List (Nat × O)} : ∀ {xs acc : List D} {st : Store} {e : Ex} {st' : Store}, compL f src xs acc st ≠ .ex e st'
  | [], acc, st, e, st', h => by
    unfold compL at h
    split at h <;> cases h
  | x :: xs, acc, st, e, st', h => by
    unfold compL at h
    split at h
    · split at h
      · exact compL_noex h
      · exact compL_noex h
      · cases h
    · cases h
theorem Ev.upd_new (e : Ev as H as' H') {p : Addr} {x : HO} (hp : H p = none) : Ev as H as' (upd H' p x) := by
  refine ⟨e.pre, fun q o h n z => ?_, e.new, fun q h => ?_, fun q o u hq h => ?_⟩
  · rw [upd_ne (ne_of_none h hp)]; exact e.keep q o h n z
  · by_cases hq : q = p
    · rw [hq, upd_same]; exact fun z => nomatch z
    · rw [upd_ne hq]; exact e.dom q h
  · rw [upd_ne (ne_of_none h hp)]; exact e.frz q o u hq h
theorem wp_lc (Pp : TE → Prop) {li le : E} {lts : List E} {t : Tg} (hc : X.calm = true) (hN : X.N.Nodup) (hi : XI X nm W P call li tg iter) (ok : BlkOk X.N X.env.scope scope own) (hix : ∀ i ∈ t.ixs, i ∈ own.map (·.2))
    (hg : ∀ s H0 C cl fp, ∀ {as sl st σ H d v sl' Q}, Sat (Bk X scope s H0 C cl fp) nm as sl st σ H → Rep X.K as H d v → assign t d sl = some sl' → (∀ σ', Sat (Bk X scope s H0 C cl fp) nm as sl' st σ' H → But t.ixs σ σ' → Q σ' H) → WpG (Bk X scope s H0 C cl fp) tg v σ H Q)
    (ht : ∀ s H C cl fp, XTs (Bk X scope s H C cl fp) nm W0 P call lts ifs)
    (he : ∀ s H C cl fp, XE (Bk X scope s H C cl fp) nm W0 P call le elt)
    (fin : ∀ (wi : TI) (tg' : TG) (t : TT) (te : TE), PI X tg iter wi → (∀ s H C cl fp, PG (Bk X scope s H C cl fp) tg tg') → (∀ s H C cl fp, PTs (Bk X scope s H C cl fp) ifs t) → (∀ s H C cl fp, PE (Bk X scope s H C cl fp) elt te) → Pp (tLc wi tg' t te (own.map (·.2)))) :
    ∃ tt, Pp tt ∧ ∀ as sl st σ H Q, Sat X nm as sl st σ H → Post X nm W (RpE X) σ as H (evE P call (.comp le t li lts (own.map (·.2))) sl st) Q → tt σ H fun v H1 => ∃ H2, Unl X H1 H2 ∧ Q v H2 := by
  refine ⟨_, fin (WpI X tg iter) (gBk X scope tg) (tBk X scope ifs) (eBk X scope elt) pi_wp
    (fun s H C cl fp => ⟨fun pins s' σ H' v u Q I r h => h s H C cl fp pins s' I u r⟩) (fun s H C cl fp => ⟨fun pins s' σ H' Q I h => pts_wp.run pins s' σ H' Q I (h s H C cl fp)⟩) (fun s H C cl fp => ⟨fun pins s' σ H' Q I h => h s H C cl fp pins s' I⟩), ?_⟩
  intro as sl st σ H Q hS hP
  refine hi as sl st σ H _ hS ?_
  rw [evE] at hP
  cases qi : evI P call li sl st with
  | ex x s => rw [qi] at hP; exact hP
  | bad => rw [qi] at hP; exact hP
  | ok w st1 =>
    rw [qi, R.ok_bind] at hP
    by_cases hb : w.xs.length ≤ lim
    case neg => rw [if_neg hb] at hP; exact hP.elim
    rw [if_pos hb] at hP
    intro as1 H0 H1 J e1 e1' S1 hlk gv Dd hD
    generalize hf : (fun d st => match assign t d (wipe (noX sl) (own.map (·.2))) with
        | some sl' => (evTs P call lts sl' st).bind fun b st => if b = true then (evE P call le sl' st).bind fun y st => .ok (some y) st else .ok none st
        | none => .bad : D → Store → R (Option D)) = f at hP
    obtain ⟨G, Y, wk, hGs, hY⟩ := gv
    let vs := own.map (·.2)
    have e01 : Ev as H as1 H1 := e1.trans e1'
    have nD : ∀ {as' : List Addr} {H' : Hp}, Ev as1 (upd H1 Dd (.lst [])) as' H' → Dd ∉ as' := fun {as' H'} e z => by
      by_cases hz : Dd ∈ as1
      · obtain ⟨o, h1, _⟩ := S1.owns Dd hz
        rw [hD] at h1; cases h1
      · have := e.new Dd z hz
        rw [upd_same] at this; cases this
    let Pv : Nat → Hp → Prop := fun i H' => ∃ as' st' acc us, H' Dd = some (.lst us) ∧ Dd ∉ as' ∧ Reps X.K as' H' acc us ∧ acc.length ≤ i ∧ StOk nm X.K X.mg as' st' H' ∧ Ev as1 H1 as' H' ∧
      Post X nm W (RpE X) σ as H ((compL f w.src (w.xs.drop i) acc st').bind fun ys st => if w.held st then new (.lst ys) (w.free st) else .bad) Q
    have sty : ∀ {i : Nat} {acc : List D} {st' : Store}, Post X nm W (RpE X) σ as H ((compL f w.src (w.xs.drop i) acc st').bind fun ys st => if w.held st then new (.lst ys) (w.free st) else .bad) Q → stays st' w.src = true := fun h => compL_stays fun z => by rw [z] at h; exact h
    refine lc_it (g := gBk X scope tg) (tt := tBk X scope ifs) (te := eBk X scope elt) (vs := vs) (σ := σ) wk Pv ?_ (fun i H' hi' ⟨as', st', acc, us, h1, h2, h3, h4, h5, h6, h7⟩ => hGs as' st' H' h6 h5 (sty h7)) (fun i x H' H'' hlt ⟨as', st', acc, us, h1, h2, h3, h4, h5, h6, h7⟩ y => ?_) (fun H' ⟨as', st', acc, us, h1, h2, h3, h4, h5, h6, h7⟩ => ?_)
    · obtain ⟨S2, e2⟩ := S1.laid (x := .lst []) hD
      exact ⟨as1, w.lock st1, [], [], upd_same, nD (Ev.refl _ _), rfl, Nat.le_refl _, S2, e2, by rw [List.drop_zero]; exact hP⟩
    · have hst := sty h7
      obtain ⟨d, hd, e2, S2, rd⟩ := hY i as' st' H' x H'' hlt h6 h5 hst y
      have hdr : w.xs.drop i = d :: w.xs.drop (i + 1) := by
        obtain ⟨h, hh⟩ := List.getElem?_eq_some_iff.mp hd
        rw [← hh]
        exact List.drop_eq_getElem_cons h
      rw [hdr, compL, if_pos hst] at h7
      have hD2 : H'' Dd = some (.lst us) := e2.keep _ _ h1 h2 trivial
      have r2 := Reps.ev h5.owns e2 _ _ h3
      intro s0 H0' C0 cl fp pins s' I u ru
      have hf0 : f d st' = match assign t d (wipe (noX sl) vs) with
        | some sl' => (evTs P call lts sl' st').bind fun b st => if b = true then (evE P call le sl' st).bind fun y st => .ok (some y) st else .ok none st
        | none => .bad := by rw [← hf]
      cases qa : assign t d (wipe (noX sl) vs) with
      | none =>
        rw [qa] at hf0
        rw [hf0] at h7
        exact h7.elim
      | some sl1 =>
        rw [qa] at hf0
        replace hf0 : f d st' = (evTs P call lts sl1 st').bind fun b st => if b = true then (evE P call le sl1 st).bind fun y st => .ok (some y) st else .ok none st := hf0
        have SB : ∀ s0 H0' C0 cl fp, Sat (Bk X scope s0 H0' C0 cl fp) nm as' (wipe (noX sl) vs) st' (L2.wipe σ vs) H'' := fun s0 H0' C0 cl fp => (Sat.noX_ (X := X) (Y := Bk X scope s0 H0' C0 cl fp) rfl rfl ((hS.ev (e01.trans (h6.trans e2)) S2))).wipe_ vs
        refine hg s0 H0' C0 cl fp (SB s0 H0' C0 cl fp) rd qa (fun σ2 S3 hbut => ⟨by rw [wipe_but (fun k hk => hbut.2 k fun z => hk (hix k z)) hbut.1, wipe_wipe], fun s1 H1' C1 cl1 fp1 => ?_⟩) pins s' I u ru
        have S3' : Sat (Bk X scope s1 H1' C1 cl1 fp1) nm as' sl1 st' σ2 H'' := by
          refine ⟨S3.st, S3.len, fun j z hz => ?_⟩
          obtain ⟨v, g1, g2⟩ := S3.slo j z hz
          exact ⟨v, g1, by cases z <;> exact g2⟩
        refine ht s1 H1' C1 cl1 fp1 as' sl1 st' σ2 H'' _ S3' ?_
        rw [hf0] at h7
        cases qt : evTs P call lts sl1 st' with
        | ex x s => rw [qt] at h7; exact h7.elim
        | bad => rw [qt] at h7; exact h7.elim
        | ok b st3 =>
          rw [qt, R.ok_bind] at h7
          intro as3 H3 v3 e3 S4 r3
          have e : v3 = b := r3
          subst e
          have hD3 : H3 Dd = some (.lst us) := e3.keep _ _ hD2 h2 trivial
          have nD3 : Dd ∉ as3 := fun z => by
            have := e3.new Dd z h2
            rw [hD2] at this; cases this
          have r4 := Reps.ev S2.owns e3 _ _ r2
          cases v3 with
          | false => exact ⟨as3, st3, acc, us, hD3, nD3, r4, by omega, S4, (h6.trans e2).trans e3, h7⟩
          | true =>
            intro s2 H2' C2 cl2 fp2
            have S5 : Sat (Bk X scope s2 H2' C2 cl2 fp2) nm as3 sl1 st3 σ2 H3 := by
              have S6 := S3'.ev e3 S4
              refine ⟨S6.st, S6.len, fun j z hz => ?_⟩
              obtain ⟨v, g1, g2⟩ := S6.slo j z hz
              exact ⟨v, g1, by cases z <;> exact g2⟩
            refine he s2 H2' C2 cl2 fp2 as3 sl1 st3 σ2 H3 _ S5 ?_
            simp only [if_true] at h7
            cases qe : evE P call le sl1 st3 with
            | ex x s => rw [qe] at h7; exact h7.elim
            | bad => rw [qe] at h7; exact h7.elim
            | ok y st5 =>
              rw [qe, R.ok_bind] at h7
              intro as5 H5 v5 e5 S7 r5
              have hD5 : H5 Dd = some (.lst us) := e5.keep _ _ hD3 nD3 trivial
              have nD5 : Dd ∉ as5 := fun z => by
                have := e5.new Dd z nD3
                rw [hD3] at this; cases this
              have r6 := Reps.ev S4.owns e5 _ _ r4
              obtain ⟨S8, lk⟩ := S7.by_ (x := .lst (us ++ [v5])) hD5 trivial nD5
              refine ⟨us, hD5, ?_, as5, st5, acc ++ [y], us ++ [v5], upd_same, nD5, Reps.lk lk _ _ (r6.app (Reps.cons r5 rfl)), by rw [List.length_append]; exact Nat.succ_le_succ h4, S8, (((h6.trans e2).trans e3).trans e5).upd_new hD, h7⟩
              rw [r6.length]
              exact Nat.lt_of_le_of_lt h4 (Nat.lt_of_lt_of_le hlt (lim_le hb))
    · have hst := sty h7
      rw [List.drop_length, compL, if_pos hst, R.ok_bind] at h7
      split at h7
      · rename_i hh
        obtain ⟨H2, u1, u2, u3, u4, u5⟩ := unlock_ok h5 hlk h6.pre hh
        have hDn : H Dd = none := by
          cases q : H Dd with
          | none => rfl
          | some o => exact (e01.dom Dd (by rw [q]; exact fun z => nomatch z) hD).elim
        have hD2 : H2 Dd = some (.lst us) := by rw [u5 Dd h2]; exact h1
        have e2 : Ev as H as' H2 := u3 as H e1 (e01.trans h6)
        obtain ⟨S3, e3⟩ := u2.adopt (o := .lst acc) (x := .lst us) e2 hDn hD2 trivial h2 fun k => ⟨us, upd_same, Reps.lk k _ _ (Reps.lk u4 _ _ h3)⟩
        have eq : upd H2 Dd (.lst us) = H2 := by
          funext q
          by_cases hq : q = Dd
          · rw [hq, upd_same, hD2]
          · rw [upd_ne hq]
        rw [eq] at S3 e3
        exact ⟨H2, u1, h7 _ _ _ e3 S3 ⟨Dd, by rw [← u2.len, List.getElem?_append_right (Nat.le_refl _), Nat.sub_self]; rfl, rfl⟩⟩
      · exact h7.elim
end
end Pu
end

section
set_option Elab.async false
set_option linter.all false
set_option maxRecDepth 100000
set_option maxHeartbeats 4000000
namespace Pu
open PySem PySem.Spec L2
variable [tb : Tb]
section
variable {C : TC} {P : Prog} {call : Nat → List SV → Store → R D} {lvl : Nat} {X : Cx} {W : WX} {nm : List Str} {as as' : List Addr} {H H' : Hp} {st : Store} {sl sl' : Slots} {σ σ' : L2.St} {tg iter elt e : Expr} {sc scope : Scope} {ifs : List Expr} {own : List (Str × Nat)} {pos : Pos}
theorem Facts.cx {Y : Cx} (h1 : Y.prog = X.prog) (h2 : Y.w = X.w) (h3 : Y.K = X.K) (h4 : Y.mg = X.mg) (h5 : Y.base = X.base) (h : Facts C P call lvl X) : Facts C P call lvl Y := by
  unfold Facts at *
  rw [h1, h2, h3, h4, h5]
  exact h
/-- what is known within a block -/
theorem Hy.blk (hy : Hy C P call lvl X W) (scope : Scope) (s : Shared) (H : Hp) (c : Addr) (cl : List (Str × Addr)) (fp : List Addr) : Hy C P call lvl (Bk X scope s H c cl fp) W0 :=
  ⟨hy.N, hy.nd, hy.calm, LamX.takes0, hy.hr, hy.un, Facts.cx (X := X) rfl rfl rfl rfl rfl hy.fx, hy.ef, hy.inj, hy.xok⟩
theorem blkQ_ok {N : List Str} (h : blkQ N sc scope own = true) : BlkOk N sc scope own := by
  unfold blkQ at h
  simp only [Bool.and_eq_true, List.all_eq_true, decide_eq_true_eq] at h
  obtain ⟨⟨⟨h1, h2⟩, h3⟩, h4⟩ := h
  refine ⟨h1, h2, h3, fun y hy e => ?_, fun y hy e => ?_⟩
  · have := h4 y hy
    rw [e] at this
    simpa using this
  · have := h4 y hy
    rcases e with e | e <;> (rw [e] at this; simpa using this)
theorem ownOf_vis (hb : BlkOk C.N X.env.scope scope (ownOf C scope)) (hy : Hy C P call lvl X W) (s : Shared) (H : Hp) (c : Addr) (cl : List (Str × Addr)) (fp : List Addr) : Tgs C (Bk X scope s H c cl fp) scope := by
  refine ⟨hy.N, hy.nd, fun x hx => ?_⟩
  unfold isLoc at hx
  have hk : scope.names.lookup x = some .local ∨ scope.names.lookup x = some .cell := by
    split at hx
    · exact .inl (by assumption)
    · exact .inr (by assumption)
    · cases hx
  have keep : ∀ {k : NameKind}, k ≠ .free → scope.names.lookup x = some k → (L2.relS scope X.env.scope).names.lookup x = some k := fun {k} hn h => L2.lookup_relS_keep hn h
  rcases hk with hk | hk
  · exact ⟨.inl (keep (by decide) hk), .inr (keep (by decide) hk)⟩
  · exact ⟨.inr (keep (by decide) hk), .inl (by show (scope.names.lookup x == some NameKind.cell) = true; rw [hk]; rfl)⟩
theorem fs_ok (h : ∀ a b c, iter ≠ .Set a b c) (env : Env) (x : Value) : foldedSetIterable iter env x = pure x := by
  cases iter <;> first | rfl | exact (h _ _ _ rfl).elim
/-- [elt for tg in iter if ..] -/
theorem xe_lc {li le : E} {lts : List E} {t : Tg} (hy : Hy C P call lvl X W) (hcm : C.calm = true) (hi : XI X C.nm W P call li tg iter) (hb : BlkOk C.N X.env.scope scope (ownOf C scope)) (htg : tgOf C scope tg = some t) (hix : ∀ i ∈ t.ixs, i ∈ (ownOf C scope).map (·.2))
    (hset : ∀ a b c, iter ≠ .Set a b c) (ht : ∀ s H c cl fp, XTs (Bk X scope s H c cl fp) C.nm W0 P call lts ifs) (he : ∀ s H c cl fp, XE (Bk X scope s H c cl fp) C.nm W0 P call le elt) :
    XE X C.nm W P call (.comp le t li lts ((ownOf C scope).map (·.2))) (.ListComp elt [⟨tg, iter, ifs, 0⟩] scope pos) := fun as sl st σ H Q S hP => by
  have hc := hy.calm hcm
  obtain ⟨tt, h1, h2⟩ := wp_lc (X := X) (own := ownOf C scope) (fun t => PE X (.ListComp elt [⟨tg, iter, ifs, 0⟩] scope pos) t) hc hy.nd hi (by rw [hy.N]; exact hb) hix
    (fun s H0 c cl fp => fun S r ha k => xg_ok (X := Bk X scope s H0 c cl fp) hc (ownOf_vis hb hy s H0 c cl fp) tg t htg S r ha k) ht he fun wi tg' t te a b c d => pe_lc hc hy.nd a (by rw [hy.N]; exact hb) b c d (fs_ok hset X.env)
  exact Wp.post (wp_pe h1 (h2 as sl st σ H Q S hP)) fun v H1 ⟨H2, u, q⟩ => ⟨H2, fun pins s I => u.1 pins σ s I, q⟩
/-! walks -/
theorem isB_ok {x : Str} {y : String} (h : isB C X.env.scope x y = true) : x = Str.ofString y ∧ glob C X.env.scope x = some .free := by
  unfold isB at h
  rw [Bool.and_eq_true] at h
  exact ⟨of_decide_eq_true h.1, of_decide_eq_true h.2⟩
theorem isB_gl (hy : Hy C P call lvl X W) {x : Str} {y : String} (h : isB C X.env.scope x y = true) : x = Str.ofString y ∧ Gl X x ∧ X.mg x = none := by
  obtain ⟨h1, h2⟩ := isB_ok h
  obtain ⟨g1, _, g3⟩ := glob_ok h2
  exact ⟨h1, g1, hy.fx.free x g3⟩
end
def SelfE (C : TC) (P : Prog) (call : Nat → List SV → Store → R D) (lvl : Nat) (self : Scope → Expr → E) : Prop := ∀ X W, Hy C P call lvl X W → ∀ e, XE X C.nm W P call (self X.env.scope e) e
section
variable {C : TC} {P : Prog} {call : Nat → List SV → Store → R D} {lvl : Nat} {X : Cx} {W : WX} {self : Scope → Expr → E} {t : Tg} {tg : Expr} {sc0 : Scope}
theorem xi_bad {e : Expr} {nm : List Str} : XI X nm W P call .bad tg e := fun as sl st σ H Q S hP => (show False from hP).elim
theorem tp_of (ht : tgOf C sc0 tg = some t) (h : isTp t = true) : ∃ ts k pos, tg = .Tuple ts k pos := by
  cases tg <;> first | cases ht | skip
  · obtain ⟨i, _, e⟩ := Option.map_eq_some_iff.mp ht
    subst e
    cases h
  · exact ⟨_, _, _, rfl⟩
theorem er_xi (hy : Hy C P call lvl X W) (hs : ∀ e, XE X C.nm W P call (self X.env.scope e) e) (ht : tgOf C sc0 tg = some t) (e : Expr) (hok : itOk t (erI C self X.env.scope e) = true) : XI X C.nm W P call (erI C self X.env.scope e) tg e := by
  have pr : ∀ l : E, pairI l = true → itOk t l = true → ∃ ts k pos, tg = .Tuple ts k pos := fun l h h2 => by
    unfold itOk at h2
    rw [h] at h2
    exact tp_of ht (by simpa using h2)
  cases e with
  | Set a b c => exact xi_bad
  | Call f args kws pos =>
    cases f with
    | Name f p =>
      cases kws with
      | nil =>
        have e0 : erI C self X.env.scope (.Call (.Name f p) args [] pos) = (erI1 C self X.env.scope f args).getD (.itr (self X.env.scope (.Call (.Name f p) args [] pos))) := rfl
        rw [e0] at hok ⊢
        unfold erI1 at hok ⊢
        by_cases h1 : isB C X.env.scope f "range" = true
        · rw [if_pos h1] at hok ⊢
          obtain ⟨e1, g1, g2⟩ := isB_gl hy h1
          subst e1
          match args with
          | [] => exact xi_itr (hs _)
          | [a] =>
            by_cases q : notStar a = true
            · simp only [q, if_true, Option.getD_some] at hok ⊢
              exact xi_rng1 g1 g2 q (hs a)
            · simp only [q, if_false, Option.getD_none] at hok ⊢
              exact xi_itr (hs _)
          | [a, b] =>
            by_cases q : (notStar a && notStar b) = true
            · simp only [q, if_true, Option.getD_some] at hok ⊢
              rw [Bool.and_eq_true] at q
              exact xi_rng2 g1 g2 q.1 q.2 (hs a) (hs b)
            · simp only [q, if_false, Option.getD_none] at hok ⊢
              exact xi_itr (hs _)
          | _ :: _ :: _ :: _ => exact xi_itr (hs _)
        · rw [if_neg h1] at hok ⊢
          by_cases h2 : isB C X.env.scope f "enumerate" = true
          · rw [if_pos h2] at hok ⊢
            obtain ⟨e1, g1, g2⟩ := isB_gl hy h2
            subst e1
            match args with
            | [] => exact xi_itr (hs _)
            | [a] =>
              by_cases q : notStar a = true
              · simp only [q, if_true, Option.getD_some] at hok ⊢
                obtain ⟨ts, k, pos', e2⟩ := pr _ rfl hok
                subst e2
                exact xi_enm g1 g2 q (hs a)
              · simp only [q, if_false, Option.getD_none] at hok ⊢
                exact xi_itr (hs _)
            | _ :: _ :: _ => exact xi_itr (hs _)
          · rw [if_neg h2] at hok ⊢
            by_cases h3 : isB C X.env.scope f "zip" = true
            · rw [if_pos h3] at hok ⊢
              obtain ⟨e1, g1, g2⟩ := isB_gl hy h3
              subst e1
              match args with
              | [] => exact xi_itr (hs _)
              | [_] => exact xi_itr (hs _)
              | [a, b] =>
                by_cases q : (notStar a && notStar b) = true
                · simp only [q, if_true, Option.getD_some] at hok ⊢
                  rw [Bool.and_eq_true] at q
                  obtain ⟨ts, k, pos', e2⟩ := pr _ rfl hok
                  subst e2
                  exact xi_zip2 g1 g2 q.1 q.2 (hs a) (hs b)
                · simp only [q, if_false, Option.getD_none] at hok ⊢
                  exact xi_itr (hs _)
              | [a, b, c] =>
                by_cases q : (notStar a && notStar b && notStar c) = true
                · simp only [q, if_true, Option.getD_some] at hok ⊢
                  exact fun as sl st σ H Q S hP => (show False from hP).elim
                · simp only [q, if_false, Option.getD_none] at hok ⊢
                  exact xi_itr (hs _)
              | _ :: _ :: _ :: _ :: _ => exact xi_itr (hs _)
            · rw [if_neg h3]
              exact xi_itr (hs _)
      | cons _ _ => exact xi_itr (hs _)
    | Attribute o m apos =>
      cases args with
      | nil =>
        cases kws with
        | nil =>
          have e0 : erI C self X.env.scope (.Call (.Attribute o m apos) [] [] pos) = if m = ("items" : Str) then (if (line1 apos pos && !isSuper o) = true then .items (self X.env.scope o) else .bad) else if m = ("values" : Str) then (if (line1 apos pos && !isSuper o) = true then .vals (self X.env.scope o) else .bad) else .itr (self X.env.scope (.Call (.Attribute o m apos) [] [] pos)) := rfl
          rw [e0] at hok ⊢
          by_cases h1 : m = ("items" : Str)
          · rw [if_pos h1] at hok ⊢
            subst h1
            by_cases q : (line1 apos pos && !isSuper o) = true
            · rw [if_pos q] at hok ⊢
              rw [Bool.and_eq_true, Bool.not_eq_true'] at q
              obtain ⟨ts, k, pos', e2⟩ := pr _ rfl hok
              subst e2
              exact xi_items (hs o) q.2 q.1
            · rw [if_neg q]; exact xi_bad
          · rw [if_neg h1] at hok ⊢
            by_cases h2 : m = ("values" : Str)
            · rw [if_pos h2] at hok ⊢
              subst h2
              by_cases q : (line1 apos pos && !isSuper o) = true
              · rw [if_pos q]
                rw [Bool.and_eq_true, Bool.not_eq_true'] at q
                exact xi_vals (hs o) q.2 q.1
              · rw [if_neg q]; exact xi_bad
            · rw [if_neg h2]; exact xi_itr (hs _)
        | cons _ _ => exact xi_itr (hs _)
      | cons _ _ => exact xi_itr (hs _)
    | _ => exact xi_itr (hs _)
  | _ => exact xi_itr (hs _)
end
section
variable {C : TC} {P : Prog} {call : Nat → List SV → Store → R D} {lvl : Nat} {X : Cx} {W : WX} {self : Scope → Expr → E}
theorem bop_ok {op : Operator} {o : Bop} (h : bopOf op = some o) : opB o = op := by
  cases op <;> simp [bopOf] at h <;> subst h <;> rfl
theorem cop_ok {op : CmpOp} {o : Cop} (h : copOf op = some o) : opC o = op := by
  cases op <;> simp [copOf] at h <;> subst h <;> rfl
theorem marks_ok {op : CmpOp} {b : Expr} (h : behindM op b = false) : behindInMarks op b = false := by
  cases b <;> first | rfl | cases h
theorem xe_super {e : Expr} (h : isSuper e = true) : ∃ p f, e = .Call (.Name "super" p) [] [] f := by
  unfold isSuper at h
  split at h
  · exact ⟨_, _, by rw [of_decide_eq_true h]⟩
  · cases h
theorem xe_name (hy : Hy C P call lvl X W) {x : Str} {pos : Pos} : XE X C.nm W P call (erStep C self X.env.scope (.Name x pos)) (.Name x pos) := by
  have e0 : erStep C self X.env.scope (.Name x pos) = if x ∈ C.xv then .bad else (match slot C X.env.scope x with
    | some i => .loc i
    | none => match glob C X.env.scope x with
      | some (.con k) => .glo k
      | _ => .bad) := rfl
  rw [e0]
  split
  · exact xe_bad.1
  · split
    · exact xe_loc hy (by assumption)
    · split
      · exact xe_glo hy (by assumption)
      · exact xe_bad.1
theorem xe_sub_ (hy : Hy C P call lvl X W) (hs : ∀ e, XE X C.nm W P call (self X.env.scope e) e) {a b : Expr} {pos : Pos} : XE X C.nm W P call (erStep C self X.env.scope (.Subscript a b pos)) (.Subscript a b pos) := by
  have hu := hy.u
  have pl : ∀ (h : ∀ lo hi st p, b ≠ .Slice lo hi st p), XE X C.nm W P call (.sub (self X.env.scope a) (self X.env.scope b)) (.Subscript a b pos) := fun h => xe_sub (by omega) (hs a) (hs b) (fun o i => by
    cases b <;> first | rfl | exact (h _ _ _ _ rfl).elim)
  cases b with
  | Slice lo hi stp p =>
    cases stp with
    | none =>
      refine xe_sli (hs a) ?_ ?_
      · cases lo with
        | none => exact xo_none
        | some e => exact xo_some (hs e)
      · cases hi with
        | none => exact xo_none
        | some e => exact xo_some (hs e)
    | some st =>
      have e0 : erStep C self X.env.scope (.Subscript a (.Slice lo hi (some st) p) pos) = (match (Expr.Slice lo hi (some st) p) with
        | .Slice lo hi none _ => .sli (self X.env.scope a) (lo.map (self X.env.scope)) (hi.map (self X.env.scope))
        | .Slice none none (some (.UnaryOp .USub (.Constant (.int 1) _ _) _)) _ => .rev (self X.env.scope a)
        | .Slice _ _ _ _ => .bad
        | _ => .sub (self X.env.scope a) (self X.env.scope (.Slice lo hi (some st) p))) := rfl
      rw [e0]
      split
      · rename_i h; cases h
      · rename_i h
        cases h
        exact xe_rev (hs a)
      · exact xe_bad.1
      · rename_i h1 h2 h3; first | exact h1.elim | exact h2.elim | exact h3.elim | exact (h1 _ _ _ _ rfl).elim | exact (h2 _ _ _ _ rfl).elim | exact (h3 _ _ _ _ rfl).elim
  | _ => exact pl fun _ _ _ _ z => nomatch z
/-- a call of a name -/
theorem xe_callN (hy : Hy C P call lvl X W) (hs : ∀ e, XE X C.nm W P call (self X.env.scope e) e) {f : Str} {args : List Expr} {p pos : Pos} : XE X C.nm W P call (erC C self X.env.scope f args) (.Call (.Name f p) args [] pos) := by
  have xs0 : ∀ a, xslot C X.env.scope a = none := fun a => by
    unfold xslot
    cases a <;> first | rfl | (rw [hy.xok]; simp)
  unfold erC
  by_cases h0 : args.all notStar = true
  · rw [if_pos h0]
    split
    · rename_i k hg
      have pl : XE X C.nm W P call (if C.calm = true then .call k (args.map (self X.env.scope)) else .bad) (.Call (.Name f p) args [] pos) := by
        split
        · exact xe_call hy (by assumption) hg h0 fun e _ => hs e
        · exact xe_bad.1
      split
      · rw [xs0]; exact pl
      · exact pl
    · rename_i c hg
      split
      · exact xe_bad.1
      · rename_i hne
        simp only [Bool.or_eq_true, not_or, Bool.not_eq_true', Bool.not_eq_false] at hne
        exact xe_make hy hne.2 hg h0 (by intro z; rw [z] at hne; exact hne.1 rfl) fun e _ => hs e
    · rename_i hg
      unfold erB
      split
      · rename_i hx
        split
        · rename_i a t tp
          rw [xs0]
          simp only []
          split
          · rename_i h1 h2
            split
            · rename_i q
              exact xe_isty hy hg hx h1 h2 q (hs a)
            · exact xe_bad.1
          · exact xe_bad.1
        · exact xe_bad.1
      · split
        · rename_i hcm
          split
          · rename_i b hb
            exact xe_blt hy hcm hg hb h0 fun e _ => hs e
          · exact xe_bad.1
        · exact xe_bad.1
    · split
      · rw [hy.xok]; exact xe_bad.1
      · exact xe_bad.1
    · exact xe_bad.1
  · rw [if_neg h0]; exact xe_bad.1
theorem tab_ok {β : Type} {b : β} {m : Str} : ∀ {l : List (String × β)}, l.foldr (fun p r => if Str.ofString p.1 = m then some p.2 else r) none = some b → ∃ p, p ∈ l ∧ Str.ofString p.1 = m ∧ p.2 = b
  | [], h => by cases h
  | q :: l, h => by
    rw [List.foldr_cons] at h
    split at h
    · rename_i e
      exact ⟨q, List.mem_cons_self, e, Option.some.inj h⟩
    · obtain ⟨p, h1, h2⟩ := tab_ok h
      exact ⟨p, List.mem_cons_of_mem _ h1, h2⟩
/-- a call of a method -/
theorem xe_callM (hy : Hy C P call lvl X W) (hs : ∀ e, XE X C.nm W P call (self X.env.scope e) e) {o : Expr} {m : Str} {args : List Expr} {apos pos : Pos} : XE X C.nm W P call (erM C self X.env.scope o m apos args pos) (.Call (.Attribute o m apos) args [] pos) := by
  have hu := hy.u
  unfold erM
  split
  case isFalse => exact xe_bad.1
  rename_i h0
  simp only [Bool.and_eq_true, Bool.not_eq_true', decide_eq_true_eq] at h0
  obtain ⟨⟨⟨h1, h2⟩, h3⟩, h4⟩ := h0
  have one : ∀ {a : Expr}, args = [a] → notStar a = true := fun {a} e => by rw [e] at h1; simpa using h1
  have nm : ∀ {b : Bm}, bmOf m = some b → (b = .pop → m = ("pop" : Str)) ∧ (b = .clear → m = ("clear" : Str)) ∧ (b = .reverse → m = ("reverse" : Str)) ∧ (b = .append → m = ("append" : Str)) ∧ (b = .index → m = ("index" : Str)) ∧ (b = .extend → m = ("extend" : Str)) ∧ (b = .get → m = ("get" : Str)) := fun {b} h => by
    obtain ⟨p, hp, e1, e2⟩ := tab_ok h
    subst e2
    rw [← e1]
    revert hp
    generalize p = q
    intro hp
    simp only [List.mem_cons, List.not_mem_nil, or_false] at hp
    rcases hp with e | e | e | e | e | e | e | e | e | e | e | e | e | e | e | e <;> subst e <;> refine ⟨?_, ?_, ?_, ?_, ?_, ?_, ?_⟩ <;> intro z <;> first | rfl | cases z
  split
  · rename_i hb
    obtain ⟨a, _⟩ := nm hb
    rw [a rfl] 
    exact xe_bmL0 PySem.F.slot_list_pop PySem.F.type_list_pop rfl h4 h3 m_pop (hs o)
  · rename_i hb
    obtain ⟨a, _⟩ := nm hb
    rw [a rfl]
    exact xe_pop0 h4 h3 (hs o)
  · rename_i hb
    obtain ⟨_, a, _⟩ := nm hb
    rw [a rfl]
    exact xe_bmL0 PySem.F.slot_list_clear PySem.F.type_list_clear rfl h4 h3 m_clear (hs o)
  · rename_i hb
    obtain ⟨_, _, a, _⟩ := nm hb
    rw [a rfl]
    exact xe_bmL0 PySem.F.slot_list_reverse PySem.F.type_list_reverse rfl h4 h3 m_reverse (hs o)
  · rename_i a1 hb
    obtain ⟨_, _, _, a, _⟩ := nm hb
    rw [a rfl]
    exact xe_bmL PySem.F.slot_list_append PySem.F.type_list_append rfl h4 (one rfl) h3 m_append (hs o) (hs a1)
  · rename_i a1 hb
    obtain ⟨_, _, _, _, a, _⟩ := nm hb
    rw [a rfl]
    exact xe_bmL PySem.F.slot_list_index PySem.F.type_list_index rfl h4 (one rfl) h3 (m_index (by omega)) (hs o) (hs a1)
  · rename_i a1 hb
    obtain ⟨_, _, _, _, _, a, _⟩ := nm hb
    rw [a rfl]
    exact xe_bmL PySem.F.slot_list_extend PySem.F.type_list_extend rfl h4 (one rfl) h3 m_extend (hs o) (hs a1)
  · rename_i a1 hb
    obtain ⟨_, _, _, _, _, _, a⟩ := nm hb
    rw [a rfl]
    exact xe_get (by omega) h4 (one rfl) h3 (hs o) (hs a1)
  · exact xe_bad.1
  · split
    case isFalse => exact xe_bad.1
    rename_i hcm
    cases q : idx C.nm m with
    | none => exact xe_bad.1
    | some k => exact xe_met hy hcm (base_ok (super_no h4) m X.env) h1 h2 h3 q (hs o) fun e _ => hs e
end
end Pu
end

section
set_option Elab.async false
set_option linter.all false
set_option maxRecDepth 100000
set_option maxHeartbeats 4000000
namespace Pu
open PySem PySem.Spec L2
variable [tb : Tb]
section
variable {C : TC} {P : Prog} {call : Nat → List SV → Store → R D} {lvl : Nat} {X : Cx} {W : WX} {self : Scope → Expr → E}
theorem ev_list {es : List Expr} (hs : ∀ e, XE X C.nm W P call (self X.env.scope e) e) (h : es.all notStar = true) : XA X C.nm W P call (es.map (self X.env.scope)) es := xa_map h fun e _ => hs e
theorem xe_lit (hy : Hy C P call lvl X W) {c : Const} {k : Nat} {pos : Pos} : XE X C.nm W P call (erStep C self X.env.scope (.Constant c k pos)) (.Constant c k pos) := by
  cases c with
  | none => exact xe_non
  | bool b => exact xe_bl
  | int i => exact xe_int
  | str s =>
    have e0 : erStep C self X.env.scope (.Constant (.str s) k pos) = if okS (txt s) then .str (txt s) else .bad := rfl
    rw [e0]
    split
    · exact xe_str (by assumption)
    · exact xe_bad.1
  | _ => exact xe_bad.1
theorem xe_dict (hs : ∀ e, XE X C.nm W P call (self X.env.scope e) e) {ks : List (Option Expr)} {vs : List Expr} {pos : Pos} : XE X C.nm W P call (erStep C self X.env.scope (.Dict ks vs pos)) (.Dict ks vs pos) := by
  have e0 : erStep C self X.env.scope (.Dict ks vs pos) = if ks.length = vs.length ∧ ks.length ≤ 15 then
      (((ks.zip vs).mapM fun (p : Option Expr × Expr) => p.1.map fun k => [self X.env.scope k, self X.env.scope p.2]).map fun l => E.dic l.flatten).getD .bad else .bad := rfl
  rw [e0]
  split
  · rename_i h
    cases q : (ks.zip vs).mapM fun (p : Option Expr × Expr) => p.1.map fun k => [self X.env.scope k, self X.env.scope p.2] with
    | none => exact xe_bad.1
    | some l =>
      obtain ⟨ps, p1, p2, p3⟩ := disp_pairs h.1 q
      subst p1 p2 p3
      cases ps with
      | nil => exact xe_dic0
      | cons p ps => exact xe_dic (f := self X.env.scope) (by simp) (by have := h.2; simpa using this) fun p _ => ⟨hs _, hs _⟩
  · exact xe_bad.1
theorem xe_comp (hy : Hy C P call lvl X W) (hs : SelfOk C P call lvl self) {elt : Expr} {gens : List Comprehension} {scope : Scope} {pos : Pos} : XE X C.nm W P call (erStep C self X.env.scope (.ListComp elt gens scope pos)) (.ListComp elt gens scope pos) := by
  rcases gens with _ | ⟨⟨tg, iter, ifs, as⟩, _ | ⟨g2, gs⟩⟩
  · exact xe_bad.1
  case cons.cons =>
    have e0 : erStep C self X.env.scope (.ListComp elt (⟨tg, iter, ifs, as⟩ :: g2 :: gs) scope pos) = .bad := by
      unfold erStep
      split <;> first | rfl | (rename_i h; cases h; done)
    rw [e0]
    exact xe_bad.1
  case cons.nil =>
    by_cases ha : as = 0
    case neg =>
      have e0 : erStep C self X.env.scope (.ListComp elt [⟨tg, iter, ifs, as⟩] scope pos) = .bad := by
        unfold erStep
        split <;> first | rfl | (rename_i h; cases h; exact (ha rfl).elim) | (rename_i h; cases h; done)
      rw [e0]
      exact xe_bad.1
    subst ha
    have e0 : erStep C self X.env.scope (.ListComp elt [⟨tg, iter, ifs, 0⟩] scope pos) = (match tgOf C scope tg with
      | some t => if (C.calm && decide (ifs.length ≤ 1) && blkQ C.N X.env.scope scope (ownOf C scope) && (t.ixs.all fun i => (ownOf C scope).any fun p => p.2 == i) && itOk t (erI C self X.env.scope iter)) = true then
          .comp (self (relQ scope X.env.scope) elt) t (erI C self X.env.scope iter) (ifs.map (self (relQ scope X.env.scope))) ((ownOf C scope).map (·.2)) else .bad
      | none => .bad) := rfl
    rw [e0]
    cases qt : tgOf C scope tg with
    | none => exact xe_bad.1
    | some t =>
      simp only []
      split
      · rename_i h
        simp only [Bool.and_eq_true, decide_eq_true_eq] at h
        obtain ⟨⟨⟨⟨h1, h2⟩, h3⟩, h4⟩, h5⟩ := h
        have hb := blkQ_ok h3
        by_cases hS : ∃ a b c, iter = .Set a b c
        · obtain ⟨a, b, c, z⟩ := hS
          subst z
          exact fun as sl st σ H Q S hP => by
            rw [evE] at hP
            exact (show False from hP).elim
        have hset : ∀ a b c, iter ≠ .Set a b c := fun a b c z => hS ⟨a, b, c, z⟩
        refine xe_lc hy h1 (er_xi hy (fun e => (hs X W hy e).1) qt iter h5) hb qt (fun i hi => ?_) hset (fun s H c cl fp => ?_) fun s H c cl fp => (hs _ W0 (hy.blk scope s H c cl fp) elt).1
        · have := List.all_eq_true.mp h4 i hi
          obtain ⟨p, hp, e⟩ := List.any_eq_true.mp this
          exact List.mem_map.mpr ⟨p, hp, eq_of_beq e⟩
        · match ifs, h2 with
          | [], _ => exact xts_nil
          | [t], _ => exact xts_one (hs _ W0 (hy.blk scope s H c cl fp) t).2
          | _ :: _ :: _, h2 => simp at h2
      · exact xe_bad.1
theorem step_ok (hs : SelfOk C P call lvl self) : SelfOk C P call lvl (erStep C self) := fun X W hy e => by
  have hu := hy.u
  have hX := hs X W hy
  have hE := fun e => (hX e).1
  have bad : XE X C.nm W P call .bad e ∧ XT X C.nm W P call .bad e := xe_bad
  cases e with
  | BoolOp op vs pos =>
    cases vs with
    | nil => cases op <;> exact xe_bad
    | cons a r =>
      cases r with
      | nil => cases op <;> exact xe_one (hX a)
      | cons b r =>
        cases op with
        | And => exact xe_and (hX a) (hX _)
        | Or => exact xe_or (hX a) (hX _)
  | BinOp a op b pos =>
    have e0 : erStep C self X.env.scope (.BinOp a op b pos) = ((bopOf op).map fun o => E.bin o (self X.env.scope a) (self X.env.scope b)).getD .bad := rfl
    rw [e0]
    cases q : bopOf op with
    | none => exact xe_bad
    | some o =>
      rw [← bop_ok q]
      have h := xe_bin (o := o) (pos := pos) (hE a) (hE b)
      exact ⟨h, xt_plain h fun _ => rfl⟩
  | UnaryOp op a pos =>
    cases op with
    | Not => exact xe_not (hX a)
    | USub =>
      cases a with
      | Constant c k p =>
        cases c with
        | int i => exact ⟨xe_negi, xt_plain xe_negi fun _ => rfl⟩
        | _ => exact xe_bad
      | _ => exact xe_bad
    | _ => exact xe_bad
  | IfExp t a b pos => exact xe_ife (hX t).2 (hX a) (hX b)
  | Dict ks vs pos => exact ⟨xe_dict hE, xt_plain (xe_dict hE) fun _ => rfl⟩
  | ListComp elt gens scope pos => exact ⟨xe_comp hy hs, xt_plain (xe_comp hy hs) fun _ => rfl⟩
  | Compare a ops cs pos =>
    match ops, cs with
    | [], _ => exact xe_bad
    | [_], [] => exact xe_bad
    | [op], [b] =>
      have e0 : erStep C self X.env.scope (.Compare a [op] [b] pos) = if behindM op b then .bad else ((copOf op).map fun o => E.cmp o (self X.env.scope a) (self X.env.scope b)).getD .bad := rfl
      rw [e0]
      split
      · exact xe_bad
      · rename_i hm
        cases q : copOf op with
        | none => exact xe_bad
        | some o =>
          rw [← cop_ok q] at hm ⊢
          exact xe_cmp (by omega) (hE a) (hE b) (marks_ok (by simpa using hm))
    | [_], _ :: _ :: _ => exact xe_bad
    | [_, _], [] => exact xe_bad
    | [_, _], [_] => exact xe_bad
    | [op, op'], [b, c] =>
      have e0 : erStep C self X.env.scope (.Compare a [op, op'] [b, c] pos) = if behindM op' c then .bad else ((copOf op).bind fun o => (copOf op').map fun o' => E.chain o o' (self X.env.scope a) (self X.env.scope b) (self X.env.scope c)).getD .bad := rfl
      rw [e0]
      split
      · exact xe_bad
      · rename_i hm
        cases q : copOf op with
        | none => exact xe_bad
        | some o =>
          cases q2 : copOf op' with
          | none => exact xe_bad
          | some o' =>
            rw [← cop_ok q2] at hm ⊢
            rw [← cop_ok q]
            exact xe_chain (by omega) (hE a) (hE b) (hE c) (marks_ok (by simpa using hm))
    | [_, _], _ :: _ :: _ :: _ => exact xe_bad
    | _ :: _ :: _ :: _, _ => exact xe_bad
  | Call f args kws pos =>
    cases kws with
    | nil =>
      cases f with
      | Name f p => exact ⟨xe_callN hy hE, xt_plain (xe_callN hy hE) fun _ => rfl⟩
      | Attribute o m apos => exact ⟨xe_callM hy hE, xt_plain (xe_callM hy hE) fun _ => rfl⟩
      | _ => exact xe_bad
    | cons _ _ => cases f <;> exact xe_bad
  | Constant c k pos => exact ⟨xe_lit hy, xt_plain (xe_lit hy) fun _ => rfl⟩
  | Attribute o f pos =>
    have e0 : erStep C self X.env.scope (.Attribute o f pos) = if isSuper o then .bad else ((idx C.nm f).map fun k => E.att (self X.env.scope o) k).getD .bad := rfl
    rw [e0]
    split
    · exact xe_bad
    · rename_i h
      cases q : idx C.nm f with
      | none => exact xe_bad
      | some k =>
        have h := xe_att (pos := pos) hy (by simpa using h) q (hE o)
        exact ⟨h, xt_plain h fun _ => rfl⟩
  | Subscript a b pos => exact ⟨xe_sub_ hy hE, xt_plain (xe_sub_ hy hE) fun _ => rfl⟩
  | Name x pos => exact ⟨xe_name hy, xt_plain (xe_name hy) fun _ => rfl⟩
  | List es pos =>
    have e0 : erStep C self X.env.scope (.List es pos) = if es.all notStar then .lst (es.map (self X.env.scope)) else .bad := rfl
    rw [e0]
    split
    · rename_i h
      have h := xe_lst (pos := pos) (ev_list hE h)
      exact ⟨h, xt_plain h fun _ => rfl⟩
    · exact xe_bad
  | Tuple es k pos =>
    have e0 : erStep C self X.env.scope (.Tuple es k pos) = if es.all notStar then .tup (es.map (self X.env.scope)) else .bad := rfl
    rw [e0]
    split
    · rename_i h
      have h := xe_tup (pos := pos) (x1 := k) (ev_list hE h)
      exact ⟨h, xt_plain h fun _ => rfl⟩
    · exact xe_bad
  | _ => exact xe_bad
theorem er_ok : ∀ n, SelfOk C P call lvl (er C n)
  | 0 => fun _ _ _ _ => xe_bad
  | n + 1 => step_ok (er_ok n)
end
end Pu
end

section
set_option Elab.async false
set_option linter.all false
set_option maxRecDepth 100000
set_option maxHeartbeats 4000000
namespace Pu
open PySem PySem.Spec L2
variable [tb : Tb]
structure HyS (C : TC) (P : Prog) (call : Nat → List SV → Store → R D) (lvl : Nat) (X : Cx) (W : WX) : Prop extends Hy C P call lvl X W where
  hp : PassesOwn (model X.prog X.w) X.A X.env X.xe
  tg : ∀ x, isLoc X.env.scope x = true → X.fn x = true ∨ X.env.scope.names.lookup x = some .local
  hs : X.stack = X.env :: X.outer
  hf : X.env.frame = some X.env.locals
section
variable (X : Cx) (nm : List Str) (W : WX) (P : Prog) (call : Nat → List SV → Store → R D)
def PostS (as : List Addr) (H : Hp) (m : RS) (D0 : Ends) : Prop := match m with
  | .ok f sl st => ∀ as' H' σ', Ev as H as' H' → Sat X nm as' sl st σ' H' → (match f with
    | .nx => D0.nx σ' H'
    | .bk => D0.bk σ' H'
    | .ct => D0.ct σ' H'
    | .rt d => ∀ v, Rep X.K as' H' d v → D0.rt v H')
  | .ex e sl st => ∀ as' H' σ' cls d, Ev as H as' H' → Sat X nm as' sl st σ' H' → ExF nm X.K X.mg as' H' e cls d → W cls d σ' H'
  | .bad => False
def XSt (l : S) (s : Stmt) : Prop := ∀ as sl st σ H D0, Sat X nm as sl st σ H → PostS X nm W as H (evS P call l sl st) D0 → WpS X s D0 σ H
def XBk (ls : List S) (ss : List Stmt) : Prop := ∀ as sl st σ H D0, Sat X nm as sl st σ H → PostS X nm W as H (evB P call ls sl st) D0 → WpB X ss D0 σ H
end
section
variable {C : TC} {P : Prog} {call : Nat → List SV → Store → R D} {lvl : Nat} {X : Cx} {W : WX} {nm : List Str} {as as' : List Addr} {H H' : Hp} {st : Store} {sl sl' : Slots} {σ σ' : L2.St} {D0 : Ends}
theorem PostS.ev {m : RS} (h : PostS X nm W as H m D0) (e : Ev as H as' H') : PostS X nm W as' H' m D0 := by
  cases m with
  | ok f sl st => exact fun as2 H2 σ2 e2 S => h as2 H2 σ2 (e.trans e2) S
  | ex x sl st => exact fun as2 H2 σ2 cls d e2 S r => h as2 H2 σ2 cls d (e.trans e2) S r
  | bad => exact h
/-- an expression in a statement -/
theorem PostS.seq {α β : Type} {Rp : RpT α β} {m : R α} {k : α → Store → RS} {Q2 : β → Hp → Prop} (S : Sat X nm as sl st σ H) (h : PostS X nm W as H (RS.of m sl k) D0)
    (f : ∀ a s as1 H1 v, Ev as H as1 H1 → Sat X nm as1 sl s σ H1 → Rp as1 H1 a v → PostS X nm W as1 H1 (k a s) D0 → Q2 v H1) : Post X nm W Rp σ as H m Q2 := by
  cases m with
  | ok a s => exact fun as1 H1 v e S1 r => f a s as1 H1 v e (S.ev e S1) r (PostS.ev (m := k a s) h e)
  | ex x s => exact fun as1 H1 cls d e S1 r => h as1 H1 σ cls d e (S.ev e S1) r
  | bad => exact h
theorem PostS.nx (h : PostS X nm W as H (.ok .nx sl st) D0) (S : Sat X nm as sl st σ H) : D0.nx σ H := h as H σ (Ev.refl _ _) S
theorem xb_nil : XBk X nm W P call [] [] := fun as sl st σ H D0 S hP => wp_pb pss_nil (PostS.nx hP S)
theorem xb_cons {l : S} {s : Stmt} {ls : List S} {ss : List Stmt} (h : XSt X nm W P call l s) (hr : XBk X nm W P call ls ss) : XBk X nm W P call (l :: ls) (s :: ss) := fun as sl st σ H D0 S hP => by
  refine wp_pb (pss_cons ps_wp pb_wp) (h as sl st σ H _ S ?_)
  rw [evB] at hP
  cases q : evS P call l sl st with
  | bad => rw [q] at hP; exact hP
  | ex e sl1 st1 => rw [q] at hP; exact hP
  | ok f sl1 st1 =>
    rw [q] at hP
    cases f with
    | nx => exact fun as1 H1 σ1 e1 S1 => hr as1 sl1 st1 σ1 H1 D0 S1 (PostS.ev (m := evB P call ls sl1 st1) hP e1)
    | bk => exact hP
    | ct => exact hP
    | rt d => exact hP
theorem xb_map {f : Stmt → S} : ∀ {ss : List Stmt}, (∀ s, XSt X nm W P call (f s) s) → XBk X nm W P call (ss.map f) ss
  | [], _ => xb_nil
  | s :: ss, h => xb_cons (h s) (xb_map h)
theorem xs_bad {s : Stmt} : XSt X nm W P call .bad s := fun as sl st σ H D0 S hP => (show False from hP).elim
/-! plain statements -/
theorem xs_exp {l : E} {e : Expr} {pos : Pos} (h : XE X nm W P call l e) (hs : swapsWith e none pos.line X.env = pure false) : XSt X nm W P call (.exp l) (.Expr e pos) := fun as sl st σ H D0 S hP => by
  rw [evS] at hP
  exact wp_ps (ps_expr pe_wp hs) (h as sl st σ H _ S (PostS.seq S hP fun a s as1 H1 v e1 S1 r1 hP1 => PostS.nx hP1 S1))
theorem xs_ret {l : E} {e : Expr} {pos : Pos} (h : XE X nm W P call l e) : XSt X nm W P call (.ret l) (.Return (some e) pos) := fun as sl st σ H D0 S hP => by
  rw [evS] at hP
  exact wp_ps (ps_ret pe_wp) (h as sl st σ H _ S (PostS.seq S hP fun a s as1 H1 v e1 S1 r1 hP1 => hP1 as1 H1 σ (Ev.refl _ _) S1 v r1))
theorem xs_retN {pos : Pos} : XSt X nm W P call .retN (.Return none pos) := fun as sl st σ H D0 S hP => by
  rw [evS] at hP
  exact wp_ps ps_retN (hP as H σ (Ev.refl _ _) S .non rfl)
theorem xs_pas {pos : Pos} : XSt X nm W P call .pas (.Pass pos) := fun as sl st σ H D0 S hP => by
  rw [evS] at hP
  exact wp_ps ps_pass (PostS.nx hP S)
theorem xs_brk {pos : Pos} : XSt X nm W P call .brk (.Break pos) := fun as sl st σ H D0 S hP => by
  rw [evS] at hP
  exact wp_ps ps_break (hP as H σ (Ev.refl _ _) S)
theorem xs_cnt {pos : Pos} : XSt X nm W P call .cnt (.Continue pos) := fun as sl st σ H D0 S hP => by
  rw [evS] at hP
  exact wp_ps ps_continue (hP as H σ (Ev.refl _ _) S)
theorem xs_ife {l : E} {t : Expr} {la lb : List S} {a b : List Stmt} {pos : Pos} (h : XT X nm W P call l t) (ha : XBk X nm W P call la a) (hb : XBk X nm W P call lb b) : XSt X nm W P call (.ife l la lb) (.If t a b pos) := fun as sl st σ H D0 S hP => by
  rw [evS] at hP
  refine wp_ps (ps_if pt_wp pb_wp pb_wp) (h as sl st σ H _ S (PostS.seq (Rp := RpB) S hP fun k s as1 H1 v e1 S1 r1 hP1 => ?_))
  have e : v = k := r1
  subst e
  cases v with
  | true => exact ha as1 sl s σ H1 D0 S1 hP1
  | false => exact hb as1 sl s σ H1 D0 S1 hP1
/-! assignments -/
theorem sat_assign (T : Tgs C X X.env.scope) (hy : HyS C P call lvl X W) : True := trivial
theorem HyS.tgs (hy : HyS C P call lvl X W) : Tgs C X X.env.scope := ⟨hy.N, hy.nd, fun x hx => ⟨isLoc_ok hx, hy.tg x hx⟩⟩
theorem xs_asgN (hy : HyS C P call lvl X W) {x : Str} {i : Nat} {l : E} {e : Expr} {p pos : Pos} (hi : slotL C X.env.scope x = some i) (h : XE X C.nm W P call l e) (hs : swapsWith e (some (.Name x p)) pos.line X.env = pure false) : XSt X C.nm W P call (.asg (.nm i) l) (.Assign [.Name x p] e pos) := fun as sl st σ H D0 S hP => by
  rw [evS] at hP
  obtain ⟨h1, h2, h3⟩ := slotL_at hy.tgs hi
  refine wp_ps (ps_set hy.nd h1 h2 pe_wp hs h3) (h as sl st σ H _ S (PostS.seq S hP fun d s as1 H1 v e1 S1 r1 hP1 => ?_))
  exact PostS.nx hP1 (S1.set i (x := .d d) r1)
theorem xs_asgT (hy : HyS C P call lvl X W) (hcm : C.calm = true) {ts : List Expr} {t : List Tg} {l : E} {e : Expr} {k : Nat} {p pos : Pos} (ht : tgsOf C X.env.scope ts = some t) (h : XE X C.nm W P call l e)
    (hs : swapsWithSole [.Tuple ts k p] e pos.line X.env = pure false) (hw : swappedStores [.Tuple ts k p] e X.env = pure none) : XSt X C.nm W P call (.asg (.tp t) l) (.Assign [.Tuple ts k p] e pos) := fun as sl st σ H D0 S hP => by
  rw [evS] at hP
  refine wp_ps (ps_asg pe_wp pg_wp hs hw) (h as sl st σ H _ S (PostS.seq S hP fun d s as1 H1 v e1 S1 r1 hP1 => ?_))
  cases qa : assign (.tp t) d sl with
  | none => rw [qa] at hP1; exact hP1.elim
  | some sl1 =>
    rw [qa] at hP1
    exact xg_ok (hy.calm hcm) hy.tgs (.Tuple ts k p) (.tp t) (by rw [tgOf, ht]; rfl) S1 r1 qa fun σ2 S2 _ => PostS.nx hP1 S2
/-! stores to objects -/
def WSet (X : Cx) : TSet := fun o i v H Q => ∀ pins s σ ov iv u, Inv X pins σ H s → RelV o ov → RelV i iv → RelV v u → wpAny (model X.prog X.w) X.A (setItem ov iv u) (fun _ s' => ∃ H', Inv X pins σ H' s' ∧ Q H') X.xe s
theorem wset_r : PSet X (WSet X) := fun pins s σ H o i v ov iv u Q I r1 r2 r3 h => h pins s σ ov iv u I r1 r2 r3
theorem wset_of {t : TSet} (p : PSet X t) {o i v : V} {H : Hp} {Q : Hp → Prop} (h : t o i v H Q) : WSet X o i v H Q := fun pins s σ ov iv u I r1 r2 r3 => p pins s σ H o i v ov iv u Q I r1 r2 r3 h
theorem put_ok (hu : X.A.units + 1 < cLine) (S : StOk nm X.K X.mg as st H) {o k x : D} {u w v : V} {st' : Store} (h : putAt o k x st = some st') (ro : Rep X.K as H o u) (rk : Rep X.K as H k w) (rx : Rep X.K as H x v) {Q : Hp → Prop}
    (hQ : ∀ H2, Ev as H as H2 → StOk nm X.K X.mg as st' H2 → Q H2) : WSet X u w v H Q := by
  unfold putAt at h
  cases q0 : obj st o with
  | none => rw [q0] at h; cases h
  | some ob =>
    rw [q0] at h
    cases ob with
    | lst xs =>
      have hl : lstAt st o = some xs := by unfold lstAt; rw [q0]
      obtain ⟨i, p, us, e0, e2, q1, hp, h1, r1⟩ := lst_at S hl ro
      cases k with
      | int j =>
        obtain ⟨jj, hj, e⟩ := Option.map_eq_some_iff.mp (show (ixN xs.length j).map (fun j => setO o (.lst (xs.set j x)) st) = some st' from h)
        subst e e0 e2
        cases rk
        obtain ⟨S2, ev⟩ := S.set (x := .lst (us.set jj v)) (o := .lst (xs.set jj x)) q1 hp trivial fun e => ⟨_, upd_same, (Reps.ev S.owns e _ _ r1).set (Rep.ev S.owns e _ _ rx) jj⟩
        exact wset_of set_list ⟨p, us, j, jj, rfl, rfl, h1, by rw [r1.length, ixN_eq]; exact hj, hQ _ ev S2⟩
      | _ => cases h
    | dic kvs =>
      replace h : (if keyOk kvs k ∧ kvs.length < lim then some (setO o (.dic (putD kvs k x)) st) else none) = some st' := h
      split at h
      · rename_i hk
        cases h
        have hd : dicAt st o = some kvs := by unfold dicAt; rw [q0]
        obtain ⟨i, p, e1, e2, hp, hc⟩ := dic_at S hd ro
        subst e1 e2
        have q1 : st[i]? = some (.dic kvs) := by simpa [obj] using q0
        have split : flatK k = true ∨ ∃ ks, k = .tup ks := by
          have := hk.1
          simp only [keyOk, Bool.and_eq_true] at this
          have := this.1
          cases k <;> simp [isKey] at this <;> first | exact .inl rfl | exact .inr ⟨_, rfl⟩
        rcases split with hf | ⟨ks, e⟩
        · obtain ⟨H2, p2, l, kk, R, e3, hd2, hr, k1, k2, hl⟩ := retag_flat S hd ro hk.1 hf rk
          cases e3
          have h2 := hl i rfl q1
          have S3 := R.st
          obtain ⟨S4, ev⟩ := S3.set (x := .dK (putK l kk v)) (o := .dic (putD kvs k x)) q1 hp trivial fun e => ⟨_, upd_same, .inl ⟨_, rfl, (dput_rep (fun a b => keyK_inj a b) hr k1 (Rep.ev S.owns R.ev _ _ rx)).lk (e.lk S3.owns)⟩⟩
          intro pins s σ ov iv u I g1 g2 g3
          exact (set_dict hu) pins s σ H2 _ _ _ _ _ _ _ (R.inv pins σ s I) g1 g2 g3 ⟨p, _, rfl, by rw [k2]; exact .k h2 (by rw [len_G hr]; exact Nat.lt_trans hk.2 (by decide)), hQ _ (R.ev.trans ev) S4⟩
        · subst e
          obtain ⟨H2, p2, l, kk, b, R, e3, hd2, hr, k1, eb, hb, hl⟩ := retag_tup S hd ro hk.1 rk
          cases e3
          have h2 := hl i rfl q1
          have S3 := R.st
          obtain ⟨S4, ev⟩ := S3.set (x := .dT (putK l kk v)) (o := .dic (putD kvs (.tup ks) x)) q1 hp trivial fun e => ⟨_, upd_same, .inr ⟨_, rfl, (dput_rep (fun a b => keyT_inj a b) hr k1 (Rep.ev S.owns R.ev _ _ rx)).lk (e.lk S3.owns)⟩⟩
          intro pins s σ ov iv u I g1 g2 g3
          exact (set_dict hu) pins s σ H2 _ _ _ _ _ _ _ (R.inv pins σ s I) g1 g2 g3 ⟨p, _, rfl, by rw [eb]; exact .t h2 hb (by rw [len_G hr]; exact Nat.lt_trans hk.2 (by decide)), hQ _ (R.ev.trans ev) S4⟩
      · cases h
    | _ => cases h
theorem xs_put (hy : Hy C P call lvl X W) {lo lk le : E} {o k e : Expr} {p pos : Pos} (ho : XE X nm W P call lo o) (hk : XE X nm W P call lk k) (he : XE X nm W P call le e) (hs : isSlice k = false) (hsw : swapsWithSole [.Subscript o k p] e pos.line X.env = pure false) (hw : swappedStores [.Subscript o k p] e X.env = pure none) :
    XSt X nm W P call (.put lo lk le) (.Assign [.Subscript o k p] e pos) := fun as sl st σ H D0 S hP => by
  have hu := hy.u
  rw [evS] at hP
  refine wp_ps (ps_asg pe_wp (pg_sub pe_wp pe_wp wset_r fun v => by cases k <;> first | rfl | cases hs) hsw hw) ?_
  refine he as sl st σ H _ S (PostS.seq S hP fun x s1 as1 H1 v e1 S1 r1 hP1 => ?_)
  refine ho as1 sl s1 σ H1 _ S1 (PostS.seq S1 hP1 fun y s2 as2 H2 u e2 S2 r2 hP2 => ?_)
  refine hk as2 sl s2 σ H2 _ S2 (PostS.seq S2 hP2 fun z s3 as3 H3 w e3 S3 r3 hP3 => ?_)
  cases q : putAt y z x s3 with
  | none => rw [q] at hP3; exact hP3.elim
  | some st' =>
    rw [q] at hP3
    exact put_ok (by omega) S3.st q (Rep.ev S2.st.owns e3 _ _ r2) r3 (Rep.ev S2.st.owns e3 _ _ (Rep.ev S1.st.owns e2 _ _ r1)) fun H4 e4 S4 => hP3 _ _ _ e4 (S3.ev e4 S4)
theorem fput_rep {v : V} {d : D} {f : Nat} {x : Str} (nd : nm.Nodup) (hx : nm[f]? = some x) (rv : Rep X.K as H d v) : ∀ {fs : List (Nat × D)} {l : List (Str × V)}, FRep nm X.K as H fs l → FRep nm X.K as H (putF fs f d) (L2.putF x v l)
  | [], l, r => by
    have e : l = [] := r
    subst e
    exact ⟨x, v, [], rfl, hx, rv, rfl⟩
  | (g, y) :: fs, l, r => by
    obtain ⟨z, u, w, e, h1, h2, h3⟩ := (show ∃ x v r, l = (x, v) :: r ∧ nm[g]? = some x ∧ Rep X.K as H y v ∧ FRep nm X.K as H fs r from r)
    subst e
    by_cases hg : g = f
    · subst hg
      rw [hx] at h1
      cases h1
      show FRep nm X.K as H (if g = g then (g, d) :: fs else _) (if x = x then (x, v) :: w else _)
      rw [if_pos rfl, if_pos rfl]
      exact ⟨x, v, w, rfl, hx, rv, h3⟩
    · have hz : ¬ z = x := fun e => hg (by
        rw [e] at h1
        exact (List.getElem?_inj (List.getElem?_eq_some_iff.mp h1).1 nd).mp (h1.trans hx.symm))
      show FRep nm X.K as H (if g = f then _ else (g, y) :: putF fs f d) (if z = x then _ else (z, u) :: L2.putF x v w)
      rw [if_neg hg, if_neg hz]
      exact ⟨z, u, _, rfl, h1, h2, fput_rep nd hx rv h3⟩
theorem putF_mem {f : Nat} {d : D} {q : Nat × D} : ∀ {fs : List (Nat × D)}, q ∈ putF fs f d → q.1 = f ∨ q ∈ fs
  | [], h => by
    have e : q = (f, d) := by simpa [putF] using h
    exact .inl (by rw [e])
  | (g, y) :: fs, h => by
    replace h : q ∈ (if g = f then (g, d) :: fs else (g, y) :: putF fs f d) := h
    split at h
    · rename_i hg
      rcases List.mem_cons.mp h with e | e
      · exact .inl (by rw [e]; exact hg)
      · exact .inr (List.mem_cons_of_mem _ e)
    · rcases List.mem_cons.mp h with e | e
      · exact .inr (by rw [e]; exact List.mem_cons_self)
      · rcases putF_mem e with z | z
        · exact .inl z
        · exact .inr (List.mem_cons_of_mem _ z)
theorem frep_len : ∀ {fs : List (Nat × D)} {l : List (Str × V)}, FRep nm X.K as H fs l → l.length = fs.length
  | [], l, r => by have e : l = [] := r; subst e; rfl
  | f :: fs, l, r => by
    obtain ⟨x, v, r0, e, _, _, h3⟩ := (show ∃ x v r, l = (x, v) :: r ∧ nm[f.1]? = some x ∧ Rep X.K as H f.2 v ∧ FRep nm X.K as H fs r from r)
    subst e
    rw [List.length_cons, List.length_cons, frep_len h3]
/-- a store to an object's name -/
theorem fld_ok (hy : Hy C P call lvl X W) (S : StOk C.nm X.K X.mg as st H) {o x : D} {u v : V} {f : Nat} {y : Str} {st' : Store} (h : fldD P o f x st = some st') (hf : C.nm[f]? = some y) (ro : Rep X.K as H o u) (rx : Rep X.K as H x v) :
    ∃ p Cd dx fs', u = .ref p ∧ H p = some (.ins Cd dx fs') ∧ Cls X.K Cd ∧ NoAttr X.K Cd y ∧ fs'.length < 1000 ∧ Ev as H as (upd H p (.ins Cd dx (L2.putF y v fs'))) ∧ StOk C.nm X.K X.mg as st' (upd H p (.ins Cd dx (L2.putF y v fs'))) := by
  unfold fldD at h
  cases q0 : obj st o with
  | none => rw [q0] at h; cases h
  | some ob =>
    rw [q0] at h
    cases ob with
    | ins c fs =>
      replace h : (if P.isFld c f ∧ fs.length < 900 then some (setO o (.ins c (putF fs f x)) st) else none) = some st' := h
      split at h
      · rename_i hk
        cases h
        obtain ⟨i, p, z, Cd, dx, fs', e1, e2, q1, hp, hc, hmg, hcls, hno, h1, hr⟩ := ins_at S q0 ro
        subst e1 e2
        have na : NoAttr X.K Cd y := hy.fx.fld c f z y Cd hk.1 hc hf hmg
        obtain ⟨S2, ev⟩ := S.set (x := .ins Cd dx (L2.putF y v fs')) (o := .ins c (putF fs f x)) q1 hp trivial fun e => ⟨z, Cd, dx, _, hc, hmg, hcls, fun q hq w hw => by
          rcases putF_mem hq with e | e
          · rw [e, hf] at hw
            cases hw
            exact na
          · exact hno q e w hw, upd_same, fput_rep hy.inj hf (Rep.ev S.owns e _ _ rx) (hr.lk (e.lk S.owns))⟩
        exact ⟨p, Cd, dx, fs', rfl, h1, hcls, na, by rw [frep_len hr]; omega, ev, S2⟩
      · cases h
    | _ => cases h
theorem xs_fld (hy : Hy C P call lvl X W) {lo le : E} {o e : Expr} {f : Str} {k : Nat} {p pos : Pos} (hk : idx C.nm f = some k) (ho : XE X C.nm W P call lo o) (he : XE X C.nm W P call le e) (hs : swapsWith e (some (.Attribute o f p)) pos.line X.env = pure false) :
    XSt X C.nm W P call (.fld lo k le) (.Assign [.Attribute o f p] e pos) := fun as sl st σ H D0 S hP => by
  rw [evS] at hP
  refine wp_ps (ps_fld pe_wp pe_wp hs) ?_
  refine he as sl st σ H _ S (PostS.seq S hP fun x s1 as1 H1 v e1 S1 r1 hP1 => ?_)
  refine ho as1 sl s1 σ H1 _ S1 (PostS.seq S1 hP1 fun y s2 as2 H2 u e2 S2 r2 hP2 => ?_)
  cases q : fldD P y k x s2 with
  | none => rw [q] at hP2; exact hP2.elim
  | some st' =>
    rw [q] at hP2
    obtain ⟨a, Cd, dx, fs', h1, h2, h3, h4, h5, h6, h7⟩ := fld_ok hy S2.st q (idx_at hk) r2 (Rep.ev S1.st.owns e2 _ _ r1)
    exact ⟨a, Cd, dx, fs', h1, h2, h3, h4, h5, hP2 _ _ _ h6 (S2.ev h6 h7)⟩
/-! op= -/
theorem xs_aug (hy : HyS C P call lvl X W) {x : Str} {i : Nat} {o : Bop} {op : Operator} {l : E} {e : Expr} {p pos : Pos} (hop : bopOf op = some o) (hi : slotL C X.env.scope x = some i) (h : XE X C.nm W P call l e) : XSt X C.nm W P call (.aug i o l) (.AugAssign (.Name x p) op e pos) := fun as sl st σ H D0 S hP => by
  rw [evS] at hP
  obtain ⟨h1, h2, h3⟩ := slotL_at hy.tgs hi
  rw [evE] at hP
  cases q0 : sl[i]? with
  | none => rw [q0] at hP; exact hP.elim
  | some z =>
    cases z with
    | none => rw [q0] at hP; exact hP.elim
    | some z =>
      cases z with
      | x e => rw [q0] at hP; exact hP.elim
      | d d =>
        rw [q0, RS.of_ok] at hP
        obtain ⟨v, g1, g2⟩ := S.slo i _ q0
        have g2 : Rep X.K as H d v := g2
        have hop' := bop_ok hop
        subst hop'
        cases o with
        | add =>
          refine wp_ps (ps_aug hy.nd h1 h2 pe_wp ip_add h3) ⟨v, g1, h as sl st σ H _ S (PostS.seq S hP fun y s as1 H1 u e1 S1 r1 hP1 => ?_)⟩
          cases d with
          | int a =>
            cases y with
            | int b =>
              cases g2
              cases r1
              exact ⟨a, b, rfl, rfl, PostS.nx hP1 (S1.set i (x := .d (.int (a + b))) rfl)⟩
            | _ => exact hP1.elim
          | _ => exact hP1.elim
        | sub =>
          refine wp_ps (ps_aug hy.nd h1 h2 pe_wp ip_sub h3) ⟨v, g1, h as sl st σ H _ S (PostS.seq S hP fun y s as1 H1 u e1 S1 r1 hP1 => ?_)⟩
          cases d with
          | int a =>
            cases y with
            | int b =>
              cases g2
              cases r1
              exact ⟨a, b, rfl, rfl, PostS.nx hP1 (S1.set i (x := .d (.int (a - b))) rfl)⟩
            | _ => exact hP1.elim
          | _ => exact hP1.elim
        | _ =>
          refine wp_ps (ps_aug hy.nd h1 h2 pe_wp (ti := fun _ _ _ _ => False) (fun pins s σ H x y v u Q I r1 r2 h => h.elim) h3) ⟨v, g1, h as sl st σ H _ S (PostS.seq S hP fun y s as1 H1 u e1 S1 r1 hP1 => ?_)⟩
          cases d <;> first | exact hP1.elim | (cases y <;> exact hP1.elim)
end
end Pu
end

section
set_option Elab.async false
set_option linter.all false
set_option maxRecDepth 100000
set_option maxHeartbeats 4000000
namespace Pu
open PySem PySem.Spec L2
variable [tb : Tb]
section
variable {C : TC} {P : Prog} {call : Nat → List SV → Store → R D} {lvl : Nat} {X : Cx} {W : WX} {nm : List Str} {as as' : List Addr} {H H' : Hp} {st : Store} {sl sl' : Slots} {σ σ' : L2.St} {D0 : Ends}
/-! raise -/
theorem xs_rais (hy : HyS C P call lvl X W) (hcm : C.calm = true) {x m : Str} {c j : Nat} {p p2 pos pos' : Pos} (hg : glob C X.env.scope x = some (.exc c)) : XSt X C.nm W P call (.rais c []) (.Raise (some (.Call (.Name x p) [.Constant (.str m) j p2] [] pos)) none pos') := fun as sl st σ H D0 S hP => by
  obtain ⟨h1, h2, h3⟩ := glob_ok hg
  obtain ⟨n1, n2, n3⟩ := okNm_ok h2
  cases q : P.exc.lookup c with
  | none => simp only [evS, q] at hP; exact hP.elim
  | some z =>
    obtain ⟨cs, fs⟩ := z
    cases fs with
    | cons _ _ => simp only [evS, q] at hP; exact hP.elim
    | nil =>
      simp only [evS, q] at hP
      obtain ⟨g1, g2, Cd, g3⟩ := hy.ef.gl x c h3
      obtain ⟨k1, k2, k3, k4⟩ := hy.ef.made x c cs Cd h3 q g3
      exact wp_ps (ps_raise (hy.calm hcm) hy.tk (pmk_own PySem.F.excBase_ValueError k1 g3 k2 (raises_own k3 k4) h1 n1)) (hP as H σ (.ref Cd) none (Ev.refl _ _) S ⟨x, Cd, g1, g3, rfl, g2, .inl ⟨rfl, rfl⟩⟩)
/-! locks -/
theorem takes_unl (tk : Takes X W) : Takes X (fun cls d σ H' => ∃ H2, Unl X H' H2 ∧ W cls d σ H2) := fun u s' x => by
  obtain ⟨a, B, sI, pins, σ, H, cls, d, e, I, nb, up, sky, na, os, ag, H2, un, w⟩ := x
  exact tk u s' ⟨a, B, sI, pins, σ, H2, cls, d, e, un.1 _ _ _ I, nb, up, sky, un.2 a na, os, ag, w⟩
/-- ends, told of the heap unlocked -/
def EndsU (X : Cx) (D0 : Ends) : Ends := ⟨fun σ H' => ∃ H2, Unl X H' H2 ∧ D0.nx σ H2, fun v H' => ∃ H2, Unl X H' H2 ∧ D0.rt v H2, fun σ H' => ∃ H2, Unl X H' H2 ∧ D0.bk σ H2, fun σ H' => ∃ H2, Unl X H' H2 ∧ D0.ct σ H2⟩
theorem WpS.unl {s : Stmt} (h : WpS X s (EndsU X D0) σ H) : WpS X s D0 σ H := fun pins s1 I => thn (h pins s1 I) fun f s2 q => by
  cases f with
  | next => obtain ⟨σ', H', I', H2, u, q⟩ := q; exact ⟨σ', H2, u.1 _ _ _ I', q⟩
  | brk => obtain ⟨σ', H', I', H2, u, q⟩ := q; exact ⟨σ', H2, u.1 _ _ _ I', q⟩
  | cont => obtain ⟨σ', H', I', H2, u, q⟩ := q; exact ⟨σ', H2, u.1 _ _ _ I', q⟩
  | ret v => obtain ⟨x, σ', H', I', r, H2, u, q⟩ := q; exact ⟨x, σ', H2, u.1 _ _ _ I', r, q⟩
theorem ExF.lk (e : Lk as H as' H') {x : Ex} {cls : Value} {d : Option Addr} (h : ExF nm X.K X.mg as H x cls d) : ExF nm X.K X.mg as' H' x cls d := by
  obtain ⟨y, C, h1, h2, h3, h0, h4⟩ := h
  refine ⟨y, C, h1, h2, h3, h0, ?_⟩
  rcases h4 with h4 | ⟨dx, us, h5, h6, h7⟩
  · exact .inl h4
  · exact .inr ⟨dx, us, h5, e.keep _ _ h6 (fun z => z) trivial, h7.lk e⟩
theorem Sat.lk (S : Sat X nm as sl st σ H) {st' : Store} (e : Lk as H as H') (h : StOk nm X.K X.mg as st' H') : Sat X nm as sl st' σ H' :=
  ⟨h, S.len, fun i x hx => by
    obtain ⟨v, h1, h2⟩ := S.slo i x hx
    refine ⟨v, h1, ?_⟩
    cases x with
    | d x => exact Rep.lk e x v h2
    | x ex =>
      obtain ⟨a, oe, cls, d, g1, g2, g3, g4, g5⟩ := h2
      exact ⟨a, oe, cls, d, g1, g2.imp_right fun z => e.keep _ _ z (fun q => q) trivial, g3, g4, g5.lk e⟩⟩
/-- what ends a loop, unlocked -/
theorem fin_ok {w : Walk} {as1 : List Addr} {H0 H1 : Hp} {m : RS} {as2 : List Addr} {H2 : Hp} (hP : PostS X nm W as H (m.fin w) D0) (hlk : Lkd X as1 H0 w.lk) (e1 : Ev as H as1 H0) (e1' : Ev as1 H0 as1 H1) (e2 : Ev as1 H1 as2 H2) :
    (∀ sl st σ', m = .ok .nx sl st → Sat X nm as2 sl st σ' H2 → (EndsU X D0).nx σ' H2) ∧ (∀ d sl st σ' v, m = .ok (.rt d) sl st → Sat X nm as2 sl st σ' H2 → Rep X.K as2 H2 d v → (EndsU X D0).rt v H2) ∧
    ∀ e sl st σ' cls d, m = .ex e sl st → Sat X nm as2 sl st σ' H2 → ExF nm X.K X.mg as2 H2 e cls d → ∃ H3, Unl X H2 H3 ∧ W cls d σ' H3 := by
  have key : ∀ {sl st σ'}, Sat X nm as2 sl st σ' H2 → w.held st = true → ∃ H3, Unl X H2 H3 ∧ Sat X nm as2 sl (w.free st) σ' H3 ∧ Ev as H as2 H3 ∧ Lk as2 H2 as2 H3 := fun {sl st σ'} S hh => by
    obtain ⟨H3, u1, u2, u3, u4, _⟩ := unlock_ok S.st hlk e2.pre hh
    exact ⟨H3, u1, S.lk u4 u2, u3 as H e1 ((e1.trans e1').trans e2), u4⟩
  refine ⟨fun sl st σ' e S => ?_, fun d sl st σ' v e S r => ?_, fun x sl st σ' cls d e S r => ?_⟩
  · subst e
    replace hP : PostS X nm W as H (if w.held st then .ok .nx sl (w.free st) else .bad) D0 := hP
    split at hP
    · obtain ⟨H3, u, S3, ev, lk⟩ := key S (by assumption)
      exact ⟨H3, u, hP as2 H3 σ' ev S3⟩
    · exact hP.elim
  · subst e
    replace hP : PostS X nm W as H (if w.held st then .ok (.rt d) sl (w.free st) else .bad) D0 := hP
    split at hP
    · obtain ⟨H3, u, S3, ev, lk⟩ := key S (by assumption)
      exact ⟨H3, u, hP as2 H3 σ' ev S3 v (Rep.lk lk _ _ r)⟩
    · exact hP.elim
  · subst e
    replace hP : PostS X nm W as H (if w.held st then .ex x sl (w.free st) else .bad) D0 := hP
    split at hP
    · obtain ⟨H3, u, S3, ev, lk⟩ := key S (by assumption)
      exact ⟨H3, u, hP as2 H3 σ' cls d ev S3 (r.lk lk)⟩
    · exact hP.elim
theorem forL_stays {f : D → Slots → Store → RS} {src : List (Nat × O)} {xs : List D} (h : forL f src xs sl st ≠ .bad) : stays st src = true := by
  cases xs with
  | nil =>
    unfold forL at h
    split at h
    · assumption
    · exact (h rfl).elim
  | cons x xs =>
    unfold forL at h
    split at h
    · assumption
    · exact (h rfl).elim
theorem fin_nb {w : Walk} {m : RS} (hP : PostS X nm W as H (m.fin w) D0) : m ≠ .bad := fun e => by
  rw [e] at hP; exact hP
theorem HyS.unl (hy : HyS C P call lvl X W) : HyS C P call lvl X (fun cls d σ H' => ∃ H2, Unl X H' H2 ∧ W cls d σ H2) :=
  ⟨⟨hy.N, hy.nd, hy.calm, takes_unl hy.tk, hy.hr, hy.un, hy.fx, hy.ef, hy.inj, hy.xok⟩, hy.hp, hy.tg, hy.hs, hy.hf⟩
/-! for -/
theorem xs_for (hy : HyS C P call lvl X W) (hcm : C.calm = true) {t : Tg} {tg iter : Expr} {li : E} {lb : List S} {b : List Stmt} {pos : Pos} (hi : XI X C.nm W P call li tg iter) (ht : tgOf C X.env.scope tg = some t) (hset : ∀ a b c, iter ≠ .Set a b c)
    (hb : XBk X C.nm (fun cls d σ H' => ∃ H2, Unl X H' H2 ∧ W cls d σ H2) P call lb b) : XSt X C.nm W P call (.for_ t li lb) (.For tg iter b [] pos) := fun as sl st σ H D0 S hP => by
  have hc := hy.calm hcm
  refine WpS.unl (wp_ps (ps_for hy.hp hc pi_wp pg_wp pb_wp (fs_ok hset X.env)) (hi as sl st σ H _ S ?_))
  rw [evS] at hP
  cases qi : evI P call li sl st with
  | ex x s =>
    rw [qi] at hP
    exact fun as1 H1 cls d e1 S1 r => hP as1 H1 σ cls d e1 (S.ev e1 S1) r
  | bad => rw [qi] at hP; exact hP
  | ok w st1 =>
    rw [qi, RS.of_ok] at hP
    intro as1 H0 H1 J e1 e1' S1 hlk gv
    generalize hf : (fun d sl st => match assign t d sl with
      | some sl' => evB P call lb sl' st
      | none => .bad : D → Slots → Store → RS) = f at hP
    obtain ⟨G, Y, wk, hGs, hY⟩ := gv
    have e01 := e1.trans e1'
    let Pv : Nat → L2.St → Hp → Prop := fun i σ' H' => ∃ as' sl' st', Ev as1 H1 as' H' ∧ Sat X C.nm as' sl' st' σ' H' ∧ PostS X C.nm W as H ((forL f w.src (w.xs.drop i) sl' st').fin w) D0
    refine for_it wk Pv ⟨as1, sl, w.lock st1, Ev.refl _ _, S.ev e01 S1, by rw [List.drop_zero]; exact hP⟩ (fun i σ' H' hi' ⟨as', sl', st', h1, h2, h3⟩ => hGs as' st' H' h1 h2.st (forL_stays (fin_nb h3))) (fun i x σ' H' H'' hlt ⟨as', sl', st', h1, h2, h3⟩ y => ?_) (fun σ' H' ⟨as', sl', st', h1, h2, h3⟩ => ?_)
    · have hst := forL_stays (fin_nb h3)
      obtain ⟨d, hd, e2, S2, rd⟩ := hY i as' st' H' x H'' hlt h1 h2.st hst y
      have hdr : w.xs.drop i = d :: w.xs.drop (i + 1) := by
        obtain ⟨h, hh⟩ := List.getElem?_eq_some_iff.mp hd
        rw [← hh]
        exact List.drop_eq_getElem_cons h
      have hf0 : f d sl' st' = match assign t d sl' with
        | some sl' => evB P call lb sl' st'
        | none => .bad := by rw [← hf]
      rw [hdr, forL, if_pos hst] at h3
      cases qa : assign t d sl' with
      | none =>
        rw [qa] at hf0
        rw [hf0] at h3
        exact h3.elim
      | some sl1 =>
        rw [qa] at hf0
        replace hf0 : f d sl' st' = evB P call lb sl1 st' := hf0
        refine xg_ok hc hy.tgs tg t ht (h2.ev e2 S2) rd qa fun σ2 S3 _ => ?_
        refine hb as' sl1 st' σ2 H'' _ S3 ?_
        rw [hf0] at h3
        cases qb : evB P call lb sl1 st' with
        | bad => rw [qb] at h3; exact h3
        | ex e sl2 st2 =>
          rw [qb] at h3
          exact fun as3 H3 σ3 cls d e3 S4 r => (fin_ok h3 hlk e1 e1' ((h1.trans e2).trans e3)).2.2 e sl2 st2 σ3 cls d rfl S4 r
        | ok fl sl2 st2 =>
          rw [qb] at h3
          cases fl with
          | nx => exact fun as3 H3 σ3 e3 S4 => ⟨as3, sl2, st2, (h1.trans e2).trans e3, S4, h3⟩
          | ct => exact fun as3 H3 σ3 e3 S4 => ⟨as3, sl2, st2, (h1.trans e2).trans e3, S4, h3⟩
          | bk => exact fun as3 H3 σ3 e3 S4 => (fin_ok h3 hlk e1 e1' ((h1.trans e2).trans e3)).1 sl2 st2 σ3 rfl S4
          | rt d => exact fun as3 H3 σ3 e3 S4 v r => (fin_ok h3 hlk e1 e1' ((h1.trans e2).trans e3)).2.1 d sl2 st2 σ3 v rfl S4 r
    · have hst := forL_stays (fin_nb h3)
      rw [List.drop_length, forL, if_pos hst] at h3
      exact (fin_ok h3 hlk e1 e1' h1).1 sl' st' σ' rfl h2
/-! while -/
theorem xs_whl (hy : HyS C P call lvl X W) {l : E} {t : Expr} {lb : List S} {b : List Stmt} {pos : Pos} (ht : XT X nm W P call l t) (hb : XBk X nm W P call lb b) : XSt X nm W P call (.whl l lb) (.While t b [] pos) := fun as sl st σ H D0 S hP => by
  rw [evS] at hP
  refine wp_ps (ps_while hy.hp pt_wp pb_wp) ⟨fun n σ' H' => ∃ as' sl' st', Ev as H as' H' ∧ Sat X nm as' sl' st' σ' H' ∧ PostS X nm W as' H' (whlL (fun sl st => (evE P call l sl st).bind fun x st => R.ofO (truth st x) st) (fun sl st => evB P call lb sl st) n sl' st') D0, ⟨fuel, as, sl, st, Ev.refl _ _, S, hP⟩, ?_⟩
  rintro n σ' H' ⟨as', sl', st', h1, h2, h3⟩
  cases n with
  | zero => exact h3.elim
  | succ n =>
    rw [whlL] at h3
    refine ht as' sl' st' σ' H' _ h2 (PostS.seq (Rp := RpB) h2 h3 fun k s as1 H1 v e1 S1 r1 hP1 => ?_)
    have e : v = k := r1
    subst e
    cases v with
    | false => exact PostS.nx hP1 S1
    | true =>
      refine ⟨fun σ2 H2 => ∃ as' sl' st', Ev as H as' H2 ∧ Sat X nm as' sl' st' σ2 H2 ∧ PostS X nm W as' H2 (whlL (fun sl st => (evE P call l sl st).bind fun x st => R.ofO (truth st x) st) (fun sl st => evB P call lb sl st) n sl' st') D0, fun σ2 H2 h => ⟨n, Nat.lt_succ_self n, h⟩, ?_⟩
      refine hb as1 sl' s σ' H1 _ S1 ?_
      simp only [if_true] at hP1
      cases qb : evB P call lb sl' s with
      | bad => rw [qb] at hP1; exact hP1
      | ex e sl2 st2 => rw [qb] at hP1; exact hP1
      | ok fl sl2 st2 =>
        rw [qb] at hP1
        cases fl with
        | nx => exact fun as3 H3 σ3 e3 S4 => ⟨as3, sl2, st2, (h1.trans e1).trans e3, S4, PostS.ev (m := whlL _ _ n sl2 st2) hP1 e3⟩
        | ct => exact fun as3 H3 σ3 e3 S4 => ⟨as3, sl2, st2, (h1.trans e1).trans e3, S4, PostS.ev (m := whlL _ _ n sl2 st2) hP1 e3⟩
        | bk => exact hP1
        | rt d => exact hP1
end
end Pu
end

section
set_option Elab.async false
set_option linter.all false
set_option maxRecDepth 100000
set_option maxHeartbeats 4000000
namespace Pu
open PySem PySem.Spec L2
variable [tb : Tb]
section
variable {C : TC} {P : Prog} {call : Nat → List SV → Store → R D} {lvl : Nat} {X : Cx} {W : WX} {nm : List Str} {as as' : List Addr} {H H' : Hp} {st : Store} {sl sl' : Slots} {σ σ' : L2.St} {D0 : Ends} {self : Scope → Expr → E}
/-! y = [..] -/
theorem comp_core (hy : Hy C P call lvl X W) (hs : SelfOk C P call lvl self) {elt : Expr} {gens : List Comprehension} {scope : Scope} {pos : Pos} (Pp : TE → Prop) (hF : Pp fun _ _ _ => False)
    (fin : ∀ tg iter ifs (wi : TI) (tg' : TG) (t : TT) (te : TE), gens = [⟨tg, iter, ifs, 0⟩] → X.calm = true → BlkOk X.N X.env.scope scope (ownOf C scope) → (∀ x, foldedSetIterable iter X.env x = pure x) → PI X tg iter wi → (∀ s H C cl fp, PG (Bk X scope s H C cl fp) tg tg') → (∀ s H C cl fp, PTs (Bk X scope s H C cl fp) ifs t) → (∀ s H C cl fp, PE (Bk X scope s H C cl fp) elt te) → Pp (tLc wi tg' t te ((ownOf C scope).map (·.2)))) :
    ∃ tt, Pp tt ∧ ∀ as sl st σ H Q, Sat X C.nm as sl st σ H → Post X C.nm W (RpE X) σ as H (evE P call (erStep C self X.env.scope (.ListComp elt gens scope pos)) sl st) Q → tt σ H fun v H1 => ∃ H2, Unl X H1 H2 ∧ Q v H2 := by
  have bad : erStep C self X.env.scope (.ListComp elt gens scope pos) = .bad → ∃ tt, Pp tt ∧ ∀ as sl st σ H Q, Sat X C.nm as sl st σ H → Post X C.nm W (RpE X) σ as H (evE P call (erStep C self X.env.scope (.ListComp elt gens scope pos)) sl st) Q → tt σ H fun v H1 => ∃ H2, Unl X H1 H2 ∧ Q v H2 := fun e => ⟨_, hF, fun as sl st σ H Q S hP => by
    rw [e] at hP
    exact (show False from hP)⟩
  rcases gens with _ | ⟨⟨tg, iter, ifs, as⟩, _ | ⟨g2, gs⟩⟩
  · exact bad rfl
  case cons.cons =>
    refine bad ?_
    unfold erStep
    split <;> first | rfl | (rename_i h; cases h; done)
  case cons.nil =>
    by_cases ha : as = 0
    case neg =>
      refine bad ?_
      unfold erStep
      split <;> first | rfl | (rename_i h; cases h; exact (ha rfl).elim) | (rename_i h; cases h; done)
    subst ha
    have e0 : erStep C self X.env.scope (.ListComp elt [⟨tg, iter, ifs, 0⟩] scope pos) = (match tgOf C scope tg with
      | some t => if (C.calm && decide (ifs.length ≤ 1) && blkQ C.N X.env.scope scope (ownOf C scope) && (t.ixs.all fun i => (ownOf C scope).any fun p => p.2 == i) && itOk t (erI C self X.env.scope iter)) = true then
          .comp (self (relQ scope X.env.scope) elt) t (erI C self X.env.scope iter) (ifs.map (self (relQ scope X.env.scope))) ((ownOf C scope).map (·.2)) else .bad
      | none => .bad) := rfl
    rw [e0]
    rw [e0] at bad
    cases qt : tgOf C scope tg with
    | none => rw [qt] at bad; exact bad rfl
    | some t =>
      rw [qt] at bad
      simp only [] at bad ⊢
      split
      · rename_i h
        simp only [Bool.and_eq_true, decide_eq_true_eq] at h
        obtain ⟨⟨⟨⟨h1, h2⟩, h3⟩, h4⟩, h5⟩ := h
        have hb := blkQ_ok h3
        by_cases hS : ∃ a b c, iter = .Set a b c
        · obtain ⟨a, b, c, z⟩ := hS
          subst z
          exact ⟨_, hF, fun as sl st σ H Q S hP => by
            rw [evE] at hP
            exact (show False from hP)⟩
        have hset : ∀ a b c, iter ≠ .Set a b c := fun a b c z => hS ⟨a, b, c, z⟩
        have hc := hy.calm h1
        have hb' : BlkOk X.N X.env.scope scope (ownOf C scope) := by rw [hy.N]; exact hb
        refine wp_lc (X := X) (own := ownOf C scope) Pp hc hy.nd (er_xi hy (fun e => (hs X W hy e).1) qt iter h5) hb' (fun i hi => ?_)
          (fun s H0 c cl fp => fun S r ha k => xg_ok (X := Bk X scope s H0 c cl fp) hc (ownOf_vis hb hy s H0 c cl fp) tg t qt S r ha k) (fun s H c cl fp => ?_) (fun s H c cl fp => (hs _ W0 (hy.blk scope s H c cl fp) elt).1) fun wi tg' t te a b c d => fin tg iter ifs wi tg' t te rfl hc hb' (fs_ok hset X.env) a b c d
        · have := List.all_eq_true.mp h4 i hi
          obtain ⟨p, hp, e⟩ := List.any_eq_true.mp this
          exact List.mem_map.mpr ⟨p, hp, eq_of_beq e⟩
        · match ifs, h2 with
          | [], _ => exact xts_nil
          | [t], _ => exact xts_one (hs _ W0 (hy.blk scope s H c cl fp) t).2
          | _ :: _ :: _, h2 => simp at h2
      · rename_i h
        exact ⟨_, hF, fun as sl st σ H Q S hP => (show False from hP)⟩
theorem xs_asgLC (hy : HyS C P call lvl X W) (hs : SelfOk C P call lvl self) {y : Str} {i : Nat} {elt : Expr} {gens : List Comprehension} {scope : Scope} {py pos spos : Pos} (hi : slotL C X.env.scope y = some i) :
    XSt X C.nm W P call (.asg (.nm i) (erStep C self X.env.scope (.ListComp elt gens scope pos))) (.Assign [.Name y py] (.ListComp elt gens scope pos) spos) := by
  have hsw : swapsWith (.ListComp elt gens scope pos) (some (.Name y py)) spos.line X.env = pure (X.env.blockKind == .function && X.env.kindOf y == some .local && py.line == pos.line && !(scope.names.any fun (n, k) => n == y && (k == .local || k == .cell))) := rfl
  cases q : (X.env.blockKind == .function && X.env.kindOf y == some .local && py.line == pos.line && !(scope.names.any fun (n, k) => n == y && (k == .local || k == .cell))) with
  | false =>
    rw [q] at hsw
    exact xs_asgN hy hi (xe_comp hy.toHy hs) hsw
  | true =>
    rw [q] at hsw
    simp only [Bool.and_eq_true] at q
    have hyl : X.env.scope.names.lookup y = some .local := eq_of_beq (show (X.env.scope.names.lookup y == some .local) = true from q.1.1.2)
    intro as sl st σ H D0 S hP
    obtain ⟨h1, h2, h3⟩ := slotL_at hy.tgs hi
    obtain ⟨tt, g1, g2⟩ := comp_core (elt := elt) (gens := gens) (scope := scope) (pos := pos) hy.toHy hs (fun t => PS X (.Assign [.Name y py] (.ListComp elt gens scope pos) spos) (tAsg t (gName i))) ⟨fun pins s σ H D I h => False.elim h⟩ fun tg iter ifs wi tg' t te hgn hc hb hset a b c d => by
      subst hgn
      exact ps_setLc hc hy.nd h1 hyl hsw a hb b c d hset
    rw [evS] at hP
    exact WpS.unl (wp_ps g1 (g2 as sl st σ H (fun v H1 => D0.nx (σ.set i (some v)) H1) S (PostS.seq S hP fun d s as1 H1 v e1 S1 r1 hP1 => PostS.nx hP1 (S1.set i (x := .d d) r1))))
/-! try -/
theorem HyS.tr (hy : HyS C P call lvl X W) {W' : WX} {pn : List (Addr × Obj)} {xe : Value → Shared → Prop} (tk : Takes (X.tr pn xe) W') (hp : PassesOwn (model X.prog X.w) X.A X.env xe) : HyS C P call lvl (X.tr pn xe) W' :=
  ⟨⟨hy.N, hy.nd, hy.calm, tk, hy.hr, hy.un, Facts.cx (X := X) rfl rfl rfl rfl rfl hy.fx, hy.ef, hy.inj, hy.xok⟩, hp, hy.tg, hy.hs, hy.hf⟩
theorem HyS.suite (hy : HyS C P call lvl X W) {a : Addr} {pn : List (Addr × Obj)} : HyS (C.hd none) P call lvl (X.suite a pn) W0 :=
  ⟨⟨hy.N, hy.nd, (fun h => by cases (show false = true from h)), LamX.takes0, (fun h => by cases (show false = true from h)), hy.un, ⟨hy.fx.fn, hy.fx.free, hy.fx.con, hy.fx.cls, hy.fx.fld, hy.fx.meth⟩, ⟨hy.ef.gl, hy.ef.of, hy.ef.made, hy.ef.exm⟩, hy.inj, hy.xok⟩, PassesOwn.never, hy.tg, hy.hs, hy.hf⟩
theorem exm_at (hy : Hy C P call lvl X W) {x : Str} {c : Nat} {Cd : Addr} {e : Ex} {cls : Value} {d : Option Addr} (hg : C.gl.lookup x = some (.exc c)) (hm : X.mg x = some (.ref Cd)) (r : ExF C.nm X.K X.mg as H e cls d) : PySem.W.exmOne X.K cls (.ref Cd) = some (P.isSub e.cls c) := by
  obtain ⟨y, C1, h1, h2, h3, h0, _⟩ := r
  obtain ⟨y', g1⟩ := hy.ef.of e.cls h0
  obtain ⟨g2, _, _⟩ := hy.ef.gl y' e.cls g1
  rw [h1] at g2
  cases g2
  rw [h3]
  exact hy.ef.exm y e.cls x c C1 Cd g1 hg h2 hm
section
variable {lb lh lo : List S} {b : List Stmt} {h0 : Stmt} {h : List Stmt} {o : List Stmt} {x : Str} {np pos pos' : Pos} {c : Nat}
/-- the body and the suite -/
theorem try_core (hy : HyS C P call lvl X W) {Cd : Addr} (hg : C.gl.lookup x = some (.exc c)) (hm : X.mg x = some (.ref Cd))
    (hb : ∀ W' pn xe, HyS C P call lvl (X.tr pn xe) W' → XBk (X.tr pn xe) C.nm W' P call lb b) (hh : ∀ a pn, XBk (X.suite a pn) C.nm W0 P call lh (h0 :: h)) {D1 D2 : Ends} (S : Sat X C.nm as sl st σ H)
    (hex : ∀ e sl1 st1, evB P call lb (noX sl) st = .ex e sl1 st1 → PostS X C.nm W as H (if P.isSub e.cls c then (match evB P call lh (noX sl1) st1 with
      | .ok f sl st => .ok f (noX sl) st
      | _ => .bad) else .ex e (noX sl1) st1) D1)
    (hok : ∀ f sl1 st1, evB P call lb (noX sl) st = .ok f sl1 st1 → ∀ as' H' σ', Ev as H as' H' → Sat X C.nm as' (noX sl1) st1 σ' H' → (match f with
      | .nx => D2.nx σ' H'
      | .bk => D2.bk σ' H'
      | .ct => D2.ct σ' H'
      | .rt d => ∀ v, Rep X.K as' H' d v → D2.rt v H')) (hbad : evB P call lb (noX sl) st ≠ .bad)
    (pn : List (Addr × Obj)) (xe : Value → Shared → Prop) (tk : Takes (X.tr pn xe) (wOnly X.K (.ref Cd) (fun a cls d D σ H => ∀ oe pn, Zc cls d oe → (∃ vs, oe.data = .fields vs) → WpB (X.suite a ((a, oe) :: pn)) (h0 :: h) D σ H) W D1))
    (hp : PassesOwn (model X.prog X.w) X.A X.env xe) : WpB (X.tr pn xe) b D2 σ H := by
  refine hb _ pn xe (hy.tr tk hp) as (noX sl) st σ H D2 (Sat.noX_ (X := X) (Y := X.tr pn xe) rfl rfl S) ?_
  cases q : evB P call lb (noX sl) st with
  | bad => exact hbad q
  | ok f sl1 st1 => exact fun as' H' σ' ev S1 => hok f sl1 st1 q as' H' σ' ev (Sat.noX_ (X := X.tr pn xe) (Y := X) rfl rfl S1)
  | ex e sl1 st1 =>
    intro as1 H1 σ1 cls d e1 S1 r
    have hP := hex e sl1 st1 q
    refine ⟨P.isSub e.cls c, exm_at (X := X) hy.toHy hg hm r, fun hbt a na => fun oe pn2 z1 z2 => ?_, fun hbf => ?_⟩
    · rw [if_pos hbt] at hP
      refine hh a _ as1 (noX sl1) st1 σ1 H1 D1 (Sat.noX_ (X := X.tr pn xe) (Y := X.suite a ((a, oe) :: pn2)) rfl rfl S1) ?_
      cases q2 : evB P call lh (noX sl1) st1 with
      | bad => rw [q2] at hP; exact hP.elim
      | ex _ _ _ => rw [q2] at hP; exact hP.elim
      | ok f sl2 st2 =>
        rw [q2] at hP
        exact fun as2 H2 σ2 e2 S2 => hP as2 H2 σ2 (e1.trans e2) (Sat.noX_ (X := X.suite a ((a, oe) :: pn2)) (Y := X) rfl rfl S2)
    · rw [if_neg (by rw [hbf]; exact Bool.false_ne_true)] at hP
      exact hP as1 H1 σ1 cls d e1 (Sat.noX_ (X := X.tr pn xe) (Y := X) rfl rfl S1) r
theorem xs_try0 (hy : HyS C P call lvl X W) (hg : glob C X.env.scope x = some (.exc c))
    (hb : ∀ W' pn xe, HyS C P call lvl (X.tr pn xe) W' → XBk (X.tr pn xe) C.nm W' P call lb b) (hh : ∀ a pn, XBk (X.suite a pn) C.nm W0 P call lh (h0 :: h)) :
    XSt X C.nm W P call (.try_ lb c none lh) (.Try b [.ExceptHandler (some (.Name x np)) none (h0 :: h) pos'] [] [] pos) := fun as sl st σ H D0 S hP => by
  obtain ⟨h1, h2, h3⟩ := glob_ok hg
  obtain ⟨n1, n2, n3⟩ := okNm_ok h2
  obtain ⟨g1, g2, Cd, g3⟩ := hy.ef.gl x c h3
  rw [evS] at hP
  refine wp_ps (ps_try_only (c := .ref Cd) (tb := fun W' D σ H => ∀ pn xe, Takes (X.tr pn xe) W' → PassesOwn (model X.prog X.w) X.A X.env xe → WpB (X.tr pn xe) b D σ H) (ts := fun a cls d D σ H => ∀ oe pn, Zc cls d oe → (∃ vs, oe.data = .fields vs) → WpB (X.suite a ((a, oe) :: pn)) (h0 :: h) D σ H)
    hy.hs hy.hf ⟨h1, n1, .inl g3⟩ hy.tk (fun W' pn xe tk hp => ⟨fun pins s σ H D I h => h pn xe tk hp pins s I⟩) fun a oe cls d pn z1 z2 => ⟨fun pins s σ H D I h => h oe pn z1 z2 pins s I⟩) ?_
  refine fun pn xe tk hp => try_core hy h3 g3 hb hh S (fun e sl1 st1 q => ?_) (fun f sl1 st1 q => ?_) (fun q => ?_) pn xe tk hp
  · rw [q] at hP; exact hP
  · rw [q] at hP; exact hP
  · rw [q] at hP; exact hP
theorem xs_tryE (hy : HyS C P call lvl X W) (hg : glob C X.env.scope x = some (.exc c))
    (hb : ∀ W' pn xe, HyS C P call lvl (X.tr pn xe) W' → XBk (X.tr pn xe) C.nm W' P call lb b) (hh : ∀ a pn, XBk (X.suite a pn) C.nm W0 P call lh (h0 :: h)) (ho : XBk X C.nm W P call lo o) :
    XSt X C.nm W P call (.tryE lb c lh lo) (.Try b [.ExceptHandler (some (.Name x np)) none (h0 :: h) pos'] o [] pos) := fun as sl st σ H D0 S hP => by
  obtain ⟨h1, h2, h3⟩ := glob_ok hg
  obtain ⟨n1, n2, n3⟩ := okNm_ok h2
  obtain ⟨g1, g2, Cd, g3⟩ := hy.ef.gl x c h3
  rw [evS] at hP
  refine wp_ps (ps_try_onlyE (c := .ref Cd) (tb := fun W' D σ H => ∀ pn xe, Takes (X.tr pn xe) W' → PassesOwn (model X.prog X.w) X.A X.env xe → WpB (X.tr pn xe) b D σ H) (ts := fun a cls d D σ H => ∀ oe pn, Zc cls d oe → (∃ vs, oe.data = .fields vs) → WpB (X.suite a ((a, oe) :: pn)) (h0 :: h) D σ H)
    pb_wp hy.hs hy.hf ⟨h1, n1, .inl g3⟩ hy.tk (fun W' pn xe tk hp => ⟨fun pins s σ H D I h => h pn xe tk hp pins s I⟩) fun a oe cls d pn z1 z2 => ⟨fun pins s σ H D I h => h oe pn z1 z2 pins s I⟩) ?_
  refine fun pn xe tk hp => try_core (D2 := { D0 with nx := WpB X o D0 }) hy h3 g3 hb hh S (fun e sl1 st1 q => ?_) (fun f sl1 st1 q => ?_) (fun q => ?_) pn xe tk hp
  · rw [q] at hP; exact hP
  · rw [q] at hP
    cases f with
    | nx => exact fun as1 H1 σ1 e1 S1 => ho as1 (noX sl1) st1 σ1 H1 D0 S1 (PostS.ev (m := evB P call lo (noX sl1) st1) hP e1)
    | bk => exact hP
    | ct => exact hP
    | rt d => exact hP
  · rw [q] at hP; exact hP
end
end
/-! all statements -/
section
variable {P : Prog} {call : Nat → List SV → Store → R D} {lvl : Nat}
theorem sw_other {e : Expr} {t : Expr} {l : Nat} {env : Env} (h : ∀ x p, t ≠ .Name x p) : swapsWith e (some t) l env = pure false := by
  cases e <;> first | rfl | (cases t <;> first | rfl | exact (h _ _ rfl).elim)
theorem sw_name {e : Expr} {x : Str} {p : Pos} {l : Nat} {env : Env} (h1 : ∀ a b c d, e ≠ .ListComp a b c d) (h2 : ∀ a b c d, e ≠ .SetComp a b c d) (h3 : ∀ a b c d f, e ≠ .DictComp a b c d f) : swapsWith e (some (.Name x p)) l env = pure false := by
  cases e <;> first | rfl | exact (h1 _ _ _ _ rfl).elim | exact (h2 _ _ _ _ rfl).elim | exact (h3 _ _ _ _ _ rfl).elim
theorem er_setc (C : TC) (m : Nat) (sc : Scope) (a b c d) : er C m sc (.SetComp a b c d) = .bad := by cases m <;> rfl
theorem er_dictc (C : TC) (m : Nat) (sc : Scope) (a b c d e) : er C m sc (.DictComp a b c d e) = .bad := by cases m <;> rfl
theorem sws_other {e : Expr} {t : Expr} {l : Nat} {env : Env} (h : ∀ x p, t ≠ .Name x p) : swapsWithSole [t] e l env = pure false := sw_other h
theorem xs_badE {C : TC} {X : Cx} {W : WX} {t : Tg} {s : Stmt} {nm : List Str} : XSt X nm W P call (.asg t .bad) s := fun as sl st σ H D0 S hP => by
  rw [evS] at hP
  exact (show False from hP).elim
theorem es_ok (m : Nat) : ∀ (n : Nat) (C : TC) (X : Cx) (W : WX), HyS C P call lvl X W → ∀ s, XSt X C.nm W P call (es m n C X.env.scope s) s
  | 0, C, X, W, hy, s => xs_bad
  | n + 1, C, X, W, hy, s => by
    have hu := hy.u
    have IH := es_ok m n
    have hE := fun e => (er_ok m X W hy.toHy e).1
    have hT := fun e => (er_ok m X W hy.toHy e).2
    have HB : ∀ b : List Stmt, XBk X C.nm W P call (b.map (es m n C X.env.scope)) b := fun b => xb_map fun s => IH C X W hy s
    show XSt X C.nm W P call (esStep C X.env.scope (es m n C X.env.scope) (fun y => es m n (C.hd y) X.env.scope) (er C m) s) s
    cases s with
    | Return e pos =>
      cases e with
      | none => exact xs_retN
      | some e => exact xs_ret (hE e)
    | Assign ts e pos =>
      match ts with
      | [] => exact xs_bad
      | _ :: _ :: _ => exact xs_bad
      | [t] =>
        cases t with
        | Name x p =>
          show XSt X C.nm W P call (((slotL C X.env.scope x).map fun i => Pu.S.asg (.nm i) (er C m X.env.scope e)).getD .bad) _
          cases qi : slotL C X.env.scope x with
          | none => exact xs_bad
          | some i =>
            show XSt X C.nm W P call (.asg (.nm i) (er C m X.env.scope e)) _
            by_cases h1 : ∃ a b c d, e = .ListComp a b c d
            · obtain ⟨a, b, c, d, z⟩ := h1
              subst z
              cases m with
              | zero => exact xs_badE (C := C)
              | succ m => exact xs_asgLC hy (er_ok m) qi
            · by_cases h2 : ∃ a b c d, e = .SetComp a b c d
              · obtain ⟨a, b, c, d, z⟩ := h2
                subst z
                rw [er_setc]; exact xs_badE (C := C)
              · by_cases h3 : ∃ a b c d f, e = .DictComp a b c d f
                · obtain ⟨a, b, c, d, f, z⟩ := h3
                  subst z
                  rw [er_dictc]; exact xs_badE (C := C)
                · exact xs_asgN hy qi (hE e) (sw_name (fun a b c d z => h1 ⟨a, b, c, d, z⟩) (fun a b c d z => h2 ⟨a, b, c, d, z⟩) fun a b c d f z => h3 ⟨a, b, c, d, f, z⟩)
        | Tuple ts k p =>
          show XSt X C.nm W P call (if C.calm then (if isTupE e then asg2Of ts e else ((tgsOf C X.env.scope ts).map fun t => Pu.S.asg (.tp t) (er C m X.env.scope e)).getD .bad) else .bad) _
          split
          · rename_i hcm
            split
            · exact xs_bad
            · rename_i he
              cases qt : tgsOf C X.env.scope ts with
              | none => exact xs_bad
              | some t => exact xs_asgT hy hcm qt (hE e) (sws_other fun _ _ z => nomatch z) (by cases e <;> first | rfl | exact (he rfl).elim)
          · exact xs_bad
        | Attribute o f p =>
          show XSt X C.nm W P call (if isSuper o then .bad else ((idx C.nm f).map fun k => Pu.S.fld (er C m X.env.scope o) k (er C m X.env.scope e)).getD .bad) _
          split
          · exact xs_bad
          · cases q : idx C.nm f with
            | none => exact xs_bad
            | some k => exact xs_fld hy.toHy q (hE o) (hE e) (sw_other fun _ _ z => nomatch z)
        | Subscript o k p =>
          show XSt X C.nm W P call (if isSlice k then .bad else .put (er C m X.env.scope o) (er C m X.env.scope k) (er C m X.env.scope e)) _
          split
          · exact xs_bad
          · rename_i hk
            exact xs_put hy.toHy (hE o) (hE k) (hE e) (by simpa using hk) (sws_other fun _ _ z => nomatch z) (by cases e <;> rfl)
        | _ => exact xs_bad
    | AugAssign t op e pos =>
      show XSt X C.nm W P call (match bopOf op with
        | none => .bad
        | some o => (match t with
          | .Name x _ => ((slotL C X.env.scope x).map fun i => Pu.S.aug i o (er C m X.env.scope e)).getD .bad
          | _ => .bad)) _
      cases q : bopOf op with
      | none => exact xs_bad
      | some o =>
        cases t with
        | Name x p =>
          simp only []
          cases qi : slotL C X.env.scope x with
          | none => exact xs_bad
          | some i => exact xs_aug hy q qi (hE e)
        | _ => exact xs_bad
    | For t it b o pos =>
      cases o with
      | cons _ _ => exact xs_bad
      | nil =>
        show XSt X C.nm W P call (if C.calm then ((tgOf C X.env.scope t).map fun t => if itOk t (erI C (er C m) X.env.scope it) then Pu.S.for_ t (erI C (er C m) X.env.scope it) (b.map (es m n C X.env.scope)) else .bad).getD .bad else .bad) _
        split
        · rename_i hcm
          cases qt : tgOf C X.env.scope t with
          | none => exact xs_bad
          | some tt =>
            simp only [Option.map_some, Option.getD_some]
            split
            · rename_i hok
              by_cases hS : ∃ a b c, it = .Set a b c
              · obtain ⟨a, b, c, z⟩ := hS
                subst z
                exact fun as sl st σ H D0 S hP => by
                  rw [evS] at hP
                  exact (show False from hP).elim
              · exact xs_for hy hcm (er_xi hy.toHy hE qt it hok) qt (fun a b c z => hS ⟨a, b, c, z⟩) (xb_map fun s => IH C X _ hy.unl s)
            · exact xs_bad
        · exact xs_bad
    | While t b o pos =>
      cases o with
      | cons _ _ => exact xs_bad
      | nil => exact xs_whl hy (hT t) (HB b)
    | If t a b pos => exact xs_ife (hT t) (HB a) (HB b)
    | Raise e c pos =>
      match e, c with
      | some (.Call (.Name x p) es [] pos'), none =>
        show XSt X C.nm W P call (raiseOf C X.env.scope x es) _
        unfold raiseOf
        split
        · rename_i hcm
          split
          · rename_i c hg
            split
            · exact xs_rais hy hcm hg
            · exact xs_bad
          · exact xs_bad
        · exact xs_bad
      | none, _ => exact xs_bad
      | some _, some _ => 
        have e0 : ∀ e c, esStep C X.env.scope (es m n C X.env.scope) (fun y => es m n (C.hd y) X.env.scope) (er C m) (.Raise (some e) (some c) pos) = .bad := fun e c => by
          unfold esStep
          split <;> first | rfl | (rename_i h; cases h; done)
        rw [e0]
        exact xs_bad
      | some e, none =>
        by_cases h : ∃ x p es pos', e = .Call (.Name x p) es [] pos'
        · obtain ⟨x, p, es', pos', z⟩ := h
          subst z
          show XSt X C.nm W P call (raiseOf C X.env.scope x es') _
          unfold raiseOf
          split
          · rename_i hcm
            split
            · rename_i c hg
              split
              · exact xs_rais hy hcm hg
              · exact xs_bad
            · exact xs_bad
          · exact xs_bad
        · have e0 : esStep C X.env.scope (es m n C X.env.scope) (fun y => es m n (C.hd y) X.env.scope) (er C m) (.Raise (some e) none pos) = .bad := by
            unfold esStep
            split <;> first | rfl | (rename_i h2; cases h2; exact (h ⟨_, _, _, _, rfl⟩).elim) | (rename_i h; cases h; done)
          rw [e0]
          exact xs_bad
    | Try b hs o f pos =>
      by_cases hx : ∃ x np n h0 h p', hs = [.ExceptHandler (some (.Name x np)) n (h0 :: h) p'] ∧ f = []
      · obtain ⟨x, np, nn, h0, h, p', z1, z2⟩ := hx
        subst z1 z2
        show XSt X C.nm W P call (tryOf C X.env.scope (es m n C X.env.scope) (fun y => es m n (C.hd y) X.env.scope) b x nn (h0 :: h) o) _
        have hb : ∀ W' pn xe, HyS C P call lvl (X.tr pn xe) W' → XBk (X.tr pn xe) C.nm W' P call (b.map (es m n C X.env.scope)) b := fun W' pn xe hy' => xb_map fun s => IH C (X.tr pn xe) W' hy' s
        have hh : ∀ a pn, XBk (X.suite a pn) C.nm W0 P call ((h0 :: h).map (es m n (C.hd none) X.env.scope)) (h0 :: h) := fun a pn => xb_map fun s => IH (C.hd none) (X.suite a pn) W0 hy.suite s
        unfold tryOf
        split
        · split
          · rename_i c hg
            cases nn with
            | none =>
              simp only []
              split
              · rename_i ho
                cases o with
                | nil => exact xs_try0 hy hg hb hh
                | cons _ _ => cases ho
              · exact xs_tryE hy hg hb hh (HB o)
            | some y =>
              simp only [hy.xok, Bool.false_and, if_false]
              exact xs_bad
          · exact xs_bad
        · exact xs_bad
      · have e0 : esStep C X.env.scope (es m n C X.env.scope) (fun y => es m n (C.hd y) X.env.scope) (er C m) (.Try b hs o f pos) = .bad := by
          unfold esStep
          split <;> first | rfl | (rename_i h2; cases h2; exact (hx ⟨_, _, _, _, _, _, rfl, rfl⟩).elim) | (rename_i h; cases h; done)
        rw [e0]
        exact xs_bad
    | Expr e pos =>
      cases e <;> first | exact xs_bad | exact xs_exp (hE _) rfl
    | Pass pos => exact xs_pas
    | Break pos => exact xs_brk
    | Continue pos => exact xs_cnt
    | _ => exact xs_bad
end
end Pu
end

section
set_option Elab.async false
set_option linter.all false
set_option maxRecDepth 100000
set_option maxHeartbeats 4000000
namespace Pu
open PySem PySem.Spec L2
variable [tb : Tb]
section
variable {C : TC} {P : Prog} {call : Nat → List SV → Store → R D} {lvl : Nat} {pg : Program} {w : World} {K : PySem.W.Frag} {mg : Str → Option Value} {base : Heap} {nm : List Str} {as : List Addr} {H : Hp} {st : Store}
theorem slots_at {n : Nat} {xs : List SV} {i : Nat} {x : SV} (h : (xs.map some ++ List.replicate n none)[i]? = some (some x)) : xs[i]? = some x := by
  by_cases hi : i < xs.length
  · rw [List.getElem?_append_left (by rw [List.length_map]; exact hi), List.getElem?_map] at h
    cases q : xs[i]? with
    | none => rw [q] at h; cases h
    | some y => rw [q] at h; cases h; rfl
  · rw [List.getElem?_append_right (by rw [List.length_map]; omega)] at h
    rw [List.getElem?_replicate] at h
    split at h <;> cases h
theorem svreps_at : ∀ {xs : List SV} {vs : List V} {i : Nat} {x : SV}, SVReps nm K mg as H xs vs → xs[i]? = some x → ∃ v, vs[i]? = some v ∧ SVRep nm K mg as H x v
  | [], _, i, x, _, e => by simp at e
  | y :: xs, vs, i, x, h, e => by
    obtain ⟨u, r, e1, h1, h2⟩ := (show ∃ u r, vs = u :: r ∧ SVRep nm K mg as H y u ∧ SVReps nm K mg as H xs r from h)
    subst e1
    cases i with
    | zero =>
      have e' : y = x := by simpa using e
      subst e'
      exact ⟨u, rfl, h1⟩
    | succ i => exact svreps_at (i := i) h2 (by simpa using e)
/-- a def keeps its promise -/
theorem fn_ok {x qual : Str} {params : Arguments} {body : List Stmt} {scope : Scope} {dvs : List V} {kws : List (Str × V)} {f : Addr} {fd : FuncData} {ps : List Str} {dfl : List D} {n m : Nat}
    (F : FunD K x qual params body scope dvs kws f fd) (S : FnScope C.N ps scope) (fx : FactsM C P call lvl pg w K mg base) (ef : ExcF C P K mg) (inj : C.nm.Nodup) (xok : C.xok = false) (hcm : C.calm = true) :
    FnOk pg w K mg base (L2.CX pg w) (lvl + 2) f fd ps (SpQ C.nm K mg ps.length (evF P call ⟨ps.length, dfl, C.N.length, esB C scope n m body⟩)) := by
  have ple : ps.length ≤ C.N.length := by
    have := congrArg List.length S.pre
    rw [List.length_take] at this
    omega
  refine F.ok (CX := L2.CX pg w) (k := lvl + 1) S (fun vs H Q E h => ?_) fun cdv A outer s H vs Q E hr h => ?_
  · obtain ⟨as, st, xs, hl, _, r, _⟩ := h
    have : ∀ {xs : List SV} {vs : List V}, SVReps C.nm K mg as H xs vs → vs.length = xs.length := by
      intro xs
      induction xs with
      | nil => intro vs h; have e : vs = [] := h; subst e; rfl
      | cons y xs ih =>
        intro vs h
        obtain ⟨u, r, e1, h1, h2⟩ := (show ∃ u r, vs = u :: r ∧ SVRep C.nm K mg as H y u ∧ SVReps C.nm K mg as H xs r from h)
        subst e1
        rw [List.length_cons, List.length_cons, ih h2]
    rw [this r, hl]
  · obtain ⟨as, st, xs, hl, S0, r, hP⟩ := h
    have vl : vs.length = xs.length := by
      have : ∀ {xs : List SV} {vs : List V}, SVReps C.nm K mg as H xs vs → vs.length = xs.length := by
        intro xs
        induction xs with
        | nil => intro vs h; have e : vs = [] := h; subst e; rfl
        | cons y xs ih =>
          intro vs h
          obtain ⟨u, r, e1, h1, h2⟩ := (show ∃ u r, vs = u :: r ∧ SVRep C.nm K mg as H y u ∧ SVReps C.nm K mg as H xs r from h)
          subst e1
          rw [List.length_cons, List.length_cons, ih h2]
      exact this r
    let X : Cx := cxOf (L2.CX pg w) pg w K mg base C.N qual scope f cdv A outer s H E
    let W : WX := fun cls d _ H => E cls d H
    have hy : HyS C P call lvl X W := ⟨⟨rfl, S.nd, fun _ => rfl, takes_of rfl rfl rfl rfl, fun _ => hr, by have := hr.un; show (A.deeper _).units + 100 < cLine; omega, fx, ef, inj, xok⟩, passes_of rfl, (fun x hx => by
      unfold isLoc at hx
      split at hx
      · rename_i q; exact .inr q
      · exact .inl rfl
      · exact (Bool.false_ne_true hx).elim), rfl, rfl⟩
    refine ⟨_, pb_wp, ?_⟩
    have hb : XBk X C.nm W P call (esB C scope n m body) body := xb_map fun s => es_ok m n C X W hy s
    have sat : Sat X C.nm as (xs.map some ++ List.replicate (C.N.length - ps.length) none) st (L2.start C.N vs) H := by
      refine ⟨S0, ?_, fun i x hx => ?_⟩
      · unfold L2.start
        rw [List.length_append, List.length_append, List.length_map, List.length_map, List.length_replicate, List.length_replicate, vl, hl]
      · obtain ⟨v, h1, h2⟩ := svreps_at r (slots_at hx)
        refine ⟨v, ?_, ?_⟩
        · unfold L2.start
          have hi : i < vs.length := (List.getElem?_eq_some_iff.mp h1).1
          rw [List.getElem?_append_left (by rw [List.length_map]; exact hi), List.getElem?_map, h1]
          rfl
        · cases x with
          | d x => exact h2
          | x e =>
            obtain ⟨a, oe, cls, d, g1, g2, g3, g4, g5⟩ := h2
            exact ⟨a, oe, cls, d, g1, .inr g2, g3, g4, g5⟩
    refine hb as _ st (L2.start C.N vs) H _ sat ?_
    have he : evF P call ⟨ps.length, dfl, C.N.length, esB C scope n m body⟩ xs st = (match evB P call (esB C scope n m body) (xs.map some ++ List.replicate (C.N.length - ps.length) none) st with
      | .ok (.rt d) _ st => R.ok d st
      | .ok .nx _ st => R.ok D.non st
      | .ex e _ st => R.ex e st
      | _ => R.bad) := by
      unfold evF
      have hc : xs.length ≤ ps.length ∧ ps.length ≤ xs.length + dfl.length := ⟨by omega, by omega⟩
      rw [if_pos hc]
      have ed : dfl.drop (xs.length + dfl.length - ps.length) = [] := List.drop_eq_nil_of_le (by omega)
      show (match evB P call (esB C scope n m body) (((xs ++ (dfl.drop (xs.length + dfl.length - ps.length)).map SV.d).map some) ++ List.replicate (C.N.length - ps.length) none) st with
        | .ok (.rt d) _ st => R.ok d st
        | .ok .nx _ st => R.ok D.non st
        | .ex e _ st => R.ex e st
        | _ => R.bad) = _
      rw [ed, List.map_nil, List.append_nil]
    rw [he] at hP
    cases q : evB P call (esB C scope n m body) (xs.map some ++ List.replicate (C.N.length - ps.length) none) st with
    | bad => rw [q] at hP; exact hP
    | ex e sl1 st1 =>
      rw [q] at hP
      exact fun as1 H1 σ1 cls d e1 S1 r1 => hP as1 H1 cls d e1 S1.st r1
    | ok fl sl1 st1 =>
      rw [q] at hP
      cases fl with
      | nx => exact fun as1 H1 σ1 e1 S1 => hP as1 H1 .non e1 S1.st rfl
      | rt d => exact fun as1 H1 σ1 e1 S1 v r1 => hP as1 H1 v e1 S1.st r1
      | bk => exact hP.elim
      | ct => exact hP.elim
end
end Pu
end

section
set_option Elab.async false
set_option linter.all false
set_option maxRecDepth 100000
set_option maxHeartbeats 4000000
namespace Pu
open PySem PySem.Spec L2
/-! a program's data -/
structure PFn where
  d : He.DefD
  ps : List Str
  N : List Str
  dfl : List D := []
structure PD where
  nm : List Str
  gl : List (Str × G)
  fns : List PFn
  con : List (Nat × D) := []
  meth : List ((Nat × Nat) × Nat) := []
  init : List (Nat × Nat) := []
  exc : List (Nat × List Nat × List Nat) := []
  fld : List (Nat × List Nat) := []
def PD.tc (p : PD) (f : PFn) : TC := { N := f.N, nm := p.nm, gl := p.gl }
def fuelE : Nat := 40
def PD.fn (p : PD) (f : PFn) : Fn := ⟨f.ps.length, f.dfl, f.N.length, esB (p.tc f) f.d.scope fuelE fuelE f.d.body⟩
def PD.prog (p : PD) : Prog := { nm := [], fns := p.fns.map p.fn, con := p.con, meth := p.meth, init := p.init, exc := p.exc, tried := none, fld := p.fld }
def PD.name (p : PD) (c : Nat) : Str := (p.nm[c]?).getD (Str.ofString "")
def glFa (p : PD) (q : Str × G) : List He.Fa := match q.2 with
  | .fn _ => [.glo q.1]
  | .cls _ => [.glo q.1, .cls q.1, .mkr q.1]
  | .exc _ => [.glo q.1, .exc q.1]
  | .con k => (match p.con.lookup k with
    | some (.str s) => [.str q.1 (sOf s)]
    | some (.int i) => [.int q.1 i]
    | _ => [])
  | .free => [.free q.1]
  | .tried => []
def PD.fas (p : PD) : List He.Fa := p.gl.flatMap (glFa p) ++ (p.meth.flatMap fun q => [.glo (p.name q.1.1), .meth (p.name q.1.1) (p.name q.1.2)]) ++ (p.fld.flatMap fun q => .glo (p.name q.1) :: q.2.map fun f => .noat (p.name q.1) (p.name f)) ++
  (p.exc.flatMap fun q => p.exc.map fun r => .exm (p.name q.1) (p.name r.1) (q.2.1.contains r.1))
def scopeB (f : PFn) : Bool := decide (f.d.scope.kind = .function) && !f.d.scope.isCoroutine && !f.d.scope.isGenerator && decide f.N.Nodup && decide (f.N.take f.ps.length = f.ps) &&
  (f.ps.all fun x => decide (f.d.scope.names.lookup x = some .local) || decide (f.d.scope.names.lookup x = some .cell)) && f.d.scope.names.all fun y => !decide (y.2 = .free)
def glB (p : PD) (q : Str × G) : Bool := match q.2 with
  | .fn k => (match p.fns[k]? with
    | some f => decide (f.d.at_ = (q.1, none))
    | none => false)
  | .cls c => decide (p.nm[c]? = some q.1) && (match p.init.lookup c with
    | some k => (match p.fns[k]? with
      | some f => decide (f.d.at_ = (q.1, some (Str.ofString "__init__")))
      | none => false)
    | none => false)
  | .exc c => decide (p.nm[c]? = some q.1) && (match p.exc.lookup c with
    | some (_, []) => true
    | _ => false)
  | .con k => (match p.con.lookup k with
    | some (.str s) => okS s
    | some (.int _) => true
    | _ => false)
  | .free => true
  | .tried => false
def methB (p : PD) (q : (Nat × Nat) × Nat) : Bool := (p.nm[q.1.1]?).isSome && (p.nm[q.1.2]?).isSome && (match p.fns[q.2]? with
  | some f => decide (f.d.at_ = (p.name q.1.1, some (p.name q.1.2)))
  | none => false)
def PD.wf (p : PD) : Bool := decide p.nm.Nodup && (p.gl.all (glB p)) && (p.fns.all scopeB) && (p.meth.all (methB p)) &&
  (p.exc.all fun q => (p.nm[q.1]?).isSome && decide (p.gl.lookup (p.name q.1) = some (.exc q.1)))
theorem mem_lk {α β : Type} [BEq α] [LawfulBEq α] {x : α} {b : β} : ∀ {l : List (α × β)}, l.lookup x = some b → (x, b) ∈ l
  | [], h => by cases h
  | (a, c) :: l, h => by
    rw [List.lookup_cons] at h
    cases q : x == a with
    | true =>
      rw [q] at h
      cases h
      rw [eq_of_beq q]
      exact List.mem_cons_self
    | false =>
      rw [q] at h
      exact List.mem_cons_of_mem _ (mem_lk h)
/-- how a def's parameters come by their values -/
structure BindF (f : PFn) : Prop where
  b : ∀ (K : PySem.W.Frag) (g : Addr) (fd : FuncData), FunD K f.d.name f.d.qual f.d.params f.d.body f.d.scope (f.d.dvs K) (f.d.kws K) g fd → ∀ j, j ≤ f.dfl.length → ∃ ds, Vals ((f.d.dvs K).drop j) ds ∧ Binds K fd f.ps ds
  r : ∀ (K : PySem.W.Frag) as H, Reps K as H f.dfl (f.d.dvs K)
  l : f.dfl.length ≤ f.ps.length
/-- no defaults -/
theorem bindF0 {f : PFn} (h0 : f.dfl = []) (h1 : f.d.dfl = [])
    (h : ∀ (kV doc pm : Value) (an : Option Addr) (cdv ct : Value) (us : List Value), us.length = f.ps.length → bindArgs (PySem.W.fnOf f.d.name f.d.qual f.d.params f.d.body f.d.scope .none kV doc pm an cdv ct) ⟨us, []⟩ = pure (f.ps.zip us)) : BindF f := by
  have e : ∀ K, f.d.dvs K = [] := fun K => by unfold He.DefD.dvs; rw [h1]; rfl
  refine ⟨fun K g fd F j hj => ⟨[], by rw [e, List.drop_nil]; exact .nil, ?_⟩, fun K as H => by rw [h0, e]; exact rfl, by rw [h0]; exact Nat.zero_le _⟩
  rw [e] at F
  exact FunD.bindsN F h
section
variable [tb : Tb] {p : PD} {pg : Program} {w : World} {K : PySem.W.Frag} {mg : Str → Option Value} {base h : Heap} {lvl : Nat} {call : Nat → List SV → Store → R D}
theorem PD.scope (wf : p.wf = true) {f : PFn} (hf : f ∈ p.fns) : FnScope f.N f.ps f.d.scope := by
  unfold PD.wf at wf
  simp only [Bool.and_eq_true] at wf
  have := List.all_eq_true.mp wf.1.1.2 f hf
  unfold scopeB at this
  simp only [Bool.and_eq_true, Bool.not_eq_true', decide_eq_true_eq, List.all_eq_true, Bool.or_eq_true, decide_eq_false_iff_not] at this
  obtain ⟨⟨⟨⟨⟨⟨h1, h2⟩, h3⟩, h4⟩, h5⟩, h6⟩, h7⟩ := this
  exact ⟨h1, h2, h3, h4, h5, h6, h7⟩
theorem fa_gl {q : Str × G} (hq : q ∈ p.gl) {f : He.Fa} (hf : f ∈ glFa p q) : f ∈ p.fas := by
  unfold PD.fas
  exact List.mem_append_left _ (List.mem_append_left _ (List.mem_append_left _ (List.mem_flatMap.mpr ⟨q, hq, hf⟩)))
theorem name_at {c : Nat} {x : Str} (h : p.nm[c]? = some x) : p.name c = x := by unfold PD.name; rw [h]; rfl
theorem facts_ok (wf : p.wf = true) (says : He.SaysD p.fas (p.fns.map (·.d)) K) (KX : K.In h) (G : h.Ns mainGlobals mg)
    (IH : ∀ k f, p.fns[k]? = some f → Callee pg w K mg base p.nm lvl (He.fAd K f.d.at_) (call k)) (f : PFn) : FactsM (p.tc f) p.prog call lvl pg w K mg base := by
  have wf0 := wf
  unfold PD.wf at wf
  simp only [Bool.and_eq_true] at wf
  obtain ⟨⟨⟨⟨w1, w2⟩, w3⟩, w4⟩, w5⟩ := wf
  have gl : ∀ {x g}, p.gl.lookup x = some g → (x, g) ∈ p.gl ∧ glB p (x, g) = true := fun h => ⟨mem_lk h, List.all_eq_true.mp w2 _ (mem_lk h)⟩
  refine ⟨fun x k hx => ?_, fun x hx => ?_, fun x k d hx hc => ?_, fun x c hx => ?_, fun c f' x y Cd hf hc hy hm => ?_, fun c m f' x y Cd hml hc hy hm => ?_⟩
  · obtain ⟨h1, h2⟩ := gl hx
    unfold glB at h2
    cases q : p.fns[k]? with
    | none => simp only [q] at h2; cases h2
    | some f' =>
      simp only [q, decide_eq_true_eq] at h2
      have c := IH k f' q
      rw [h2] at c
      exact ⟨_, He.glo_ok KX G (says.facts (fa_gl h1 (by simp [glFa]))), c⟩
  · obtain ⟨h1, h2⟩ := gl hx
    exact He.free_ok KX G (says.facts (fa_gl h1 (by simp [glFa])))
  · obtain ⟨h1, h2⟩ := gl hx
    have hc : p.con.lookup k = some d := hc
    unfold glB at h2
    simp only [hc] at h2
    cases d with
    | str s =>
      obtain ⟨t, ht⟩ := He.str_ok KX G (says.facts (fa_gl h1 (f := .str x (sOf s)) (by simp [glFa, hc])))
      exact ⟨.str (sOf s), _, ht, ⟨t, rfl⟩, fun as H => ⟨rfl, h2⟩⟩
    | int i =>
      obtain ⟨t, ht⟩ := He.int_ok KX G (says.facts (fa_gl h1 (f := .int x i) (by simp [glFa, hc])))
      exact ⟨.int i, _, ht, ⟨t, rfl⟩, fun as H => rfl⟩
    | _ => cases h2
  · obtain ⟨h1, h2⟩ := gl hx
    unfold glB at h2
    simp only [Bool.and_eq_true, decide_eq_true_eq] at h2
    obtain ⟨h3, h4⟩ := h2
    cases q : p.init.lookup c with
    | none => simp only [q] at h4; cases h4
    | some k =>
      simp only [q] at h4
      cases q2 : p.fns[k]? with
      | none => simp only [q2] at h4; cases h4
      | some f' =>
        simp only [q2, decide_eq_true_eq] at h4
        have cc := IH k f' q2
        rw [h4] at cc
        exact ⟨h3, k, He.ga K x, He.ma K (He.ga K x) "__init__", q, He.glo_ok KX G (says.facts (fa_gl h1 (by simp [glFa]))), He.mkr_ok (says.facts (fa_gl h1 (by simp [glFa]))), He.cls_ok (says.facts (fa_gl h1 (by simp [glFa]))), cc⟩
  · unfold Prog.isFld at hf
    have hc : p.nm[c]? = some x := hc
    have hy : p.nm[f']? = some y := hy
    cases q : p.fld.lookup c with
    | none => rw [show p.prog.fld = p.fld from rfl, q] at hf; cases hf
    | some fs =>
      rw [show p.prog.fld = p.fld from rfl, q] at hf
      have hm2 := mem_lk q
      have hfs : f' ∈ fs := by simpa using hf
      have fa : He.Fa.noat x y ∈ p.fas := by
        unfold PD.fas
        refine List.mem_append_left _ (List.mem_append_right _ (List.mem_flatMap.mpr ⟨(c, fs), hm2, List.mem_cons_of_mem _ (List.mem_map.mpr ⟨f', hfs, ?_⟩)⟩))
        rw [name_at hc, name_at hy]
      have fg : He.Fa.glo x ∈ p.fas := by
        unfold PD.fas
        refine List.mem_append_left _ (List.mem_append_right _ (List.mem_flatMap.mpr ⟨(c, fs), hm2, ?_⟩))
        rw [name_at hc]
        exact List.mem_cons_self
      have na := He.noat_ok (says.facts fa)
      have e : Cd = He.ga K x := by
        have z := He.glo_ok KX G (says.facts fg)
        rw [hm] at z
        cases z
        rfl
      rw [e]
      exact na
  · have hml : p.meth.lookup (c, m) = some f' := hml
    have hc : p.nm[c]? = some x := hc
    have hy : p.nm[m]? = some y := hy
    have mm := List.all_eq_true.mp w4 _ (mem_lk hml)
    unfold methB at mm
    simp only [Bool.and_eq_true] at mm
    cases q : p.fns[f']? with
    | none => simp only [q] at mm; cases mm.2
    | some fn =>
      simp only [q, decide_eq_true_eq] at mm
      have e := mm.2
      rw [name_at hc, name_at hy] at e
      have cc := IH f' fn q
      rw [e] at cc
      have fa : He.Fa.meth x y ∈ p.fas := by
        unfold PD.fas
        refine List.mem_append_left _ (List.mem_append_left _ (List.mem_append_right _ (List.mem_flatMap.mpr ⟨((c, m), f'), mem_lk hml, ?_⟩)))
        rw [name_at hc, name_at hy]
        exact List.mem_cons_of_mem _ List.mem_cons_self
      have fg : He.Fa.glo x ∈ p.fas := by
        unfold PD.fas
        refine List.mem_append_left _ (List.mem_append_left _ (List.mem_append_right _ (List.mem_flatMap.mpr ⟨((c, m), f'), mem_lk hml, ?_⟩)))
        rw [name_at hc, name_at hy]
        exact List.mem_cons_self
      have e : Cd = He.ga K x := by
        have z := He.glo_ok KX G (says.facts fg)
        rw [hm] at z
        cases z
        rfl
      rw [e]
      exact ⟨_, He.meth_ok (says.facts fa), cc⟩
/-- the exceptions' classes -/
theorem excF_ok (wf : p.wf = true) (hxc : tb.xc = p.exc.map (·.1)) (says : He.SaysD p.fas (p.fns.map (·.d)) K) (KX : K.In h) (G : h.Ns mainGlobals mg) (f : PFn) : ExcF (p.tc f) p.prog K mg := by
  have wf0 := wf
  unfold PD.wf at wf
  simp only [Bool.and_eq_true] at wf
  obtain ⟨⟨⟨⟨w1, w2⟩, w3⟩, w4⟩, w5⟩ := wf
  have gl : ∀ {x g}, p.gl.lookup x = some g → (x, g) ∈ p.gl ∧ glB p (x, g) = true := fun h => ⟨mem_lk h, List.all_eq_true.mp w2 _ (mem_lk h)⟩
  have exl : ∀ {x c}, p.gl.lookup x = some (.exc c) → p.nm[c]? = some x ∧ ∃ cs, p.exc.lookup c = some (cs, []) ∧ (x, Pu.G.exc c) ∈ p.gl := fun {x c} hx => by
    obtain ⟨h1, h2⟩ := gl hx
    unfold glB at h2
    simp only [Bool.and_eq_true, decide_eq_true_eq] at h2
    refine ⟨h2.1, ?_⟩
    have h3 := h2.2
    split at h3
    · rename_i cs q
      exact ⟨cs, q, h1⟩
    · cases h3
  refine ⟨fun x c hx => ?_, fun c hc => ?_, fun x c cs Cd hx hl hm => ?_, fun x c x2 c2 Cd Cd2 hx hx2 hm hm2 => ?_⟩
  · obtain ⟨h1, cs, h2, h3⟩ := exl hx
    refine ⟨h1, ?_, He.ga K x, He.glo_ok KX G (says.facts (fa_gl h3 (by simp [glFa])))⟩
    rw [hxc]
    exact List.mem_map.mpr ⟨(c, cs, []), mem_lk h2, rfl⟩
  · rw [hxc] at hc
    obtain ⟨q, h1, h2⟩ := List.mem_map.mp hc
    have := List.all_eq_true.mp w5 q h1
    simp only [Bool.and_eq_true, decide_eq_true_eq] at this
    rw [h2] at this
    exact ⟨_, this.2⟩
  · obtain ⟨h1, cs', h2, h3⟩ := exl hx
    have z := He.glo_ok KX G (says.facts (fa_gl h3 (f := .glo x) (by simp [glFa])))
    rw [hm] at z
    cases z
    exact He.exc_ok (says.facts (fa_gl h3 (f := .exc x) (by simp [glFa])))
  · obtain ⟨h1, cs, h2, h3⟩ := exl hx
    obtain ⟨g1, cs2, g2, g3⟩ := exl hx2
    have z := He.glo_ok KX G (says.facts (fa_gl h3 (f := .glo x) (by simp [glFa])))
    have z2 := He.glo_ok KX G (says.facts (fa_gl g3 (f := .glo x2) (by simp [glFa])))
    rw [hm] at z
    rw [hm2] at z2
    cases z
    cases z2
    have e : p.prog.isSub c c2 = cs.contains c2 := by
      unfold Prog.isSub
      rw [show p.prog.exc = p.exc from rfl, h2]
    rw [e]
    have fa : He.Fa.exm x x2 (cs.contains c2) ∈ p.fas := by
      unfold PD.fas
      refine List.mem_append_right _ (List.mem_flatMap.mpr ⟨(c, cs, []), mem_lk h2, List.mem_map.mpr ⟨(c2, cs2, []), mem_lk g2, ?_⟩⟩)
      rw [name_at h1, name_at g1]
    exact He.exm_ok (says.facts fa)
/-- every def keeps its promise, to any depth of calls -/
theorem calls_ok (wf : p.wf = true) (hxc : tb.xc = p.exc.map (·.1)) (hB : ∀ f ∈ p.fns, BindF f) (says : He.SaysD p.fas (p.fns.map (·.d)) K) (KX : K.In h) (G : h.Ns mainGlobals mg) :
    ∀ (n k : Nat) (f : PFn), p.fns[k]? = some f → Callee pg w K mg base p.nm (2 * n) (He.fAd K f.d.at_) (run p.prog n k)
  | 0, k, f, hf => by
    obtain ⟨fd, F⟩ := says.defs (d := f.d) (List.mem_map.mpr ⟨f, List.mem_of_getElem? hf, rfl⟩)
    refine ⟨fd, f.ps, F.kp, ⟨fun vs H Q E h => ?_, fun A outer s H args us vs Q E hr he hb hv h => ?_⟩, fun n ⟨xs, st, _, h⟩ => ?_⟩
    · obtain ⟨as, st, xs, _, _, _, h⟩ := h
      exact (show False from h).elim
    · obtain ⟨as, st, xs, _, _, _, h⟩ := h
      exact (show False from h).elim
    · exact (h rfl).elim
  | n + 1, k, f, hf => by
    have hm := List.mem_of_getElem? hf
    obtain ⟨fd, F⟩ := says.defs (d := f.d) (List.mem_map.mpr ⟨f, hm, rfl⟩)
    have er : run p.prog (n + 1) k = evF p.prog (run p.prog n) (p.fn f) := by
      funext as st
      show (match p.prog.fns[k]? with
        | some F => evF p.prog (run p.prog n) F as st
        | none => .bad) = _
      rw [show p.prog.fns[k]? = some (p.fn f) by show (p.fns.map p.fn)[k]? = _; rw [List.getElem?_map, hf]; rfl]
    have nd : p.nm.Nodup := by
      unfold PD.wf at wf
      simp only [Bool.and_eq_true, decide_eq_true_eq] at wf
      exact wf.1.1.1.1
    have ok := fn_ok (C := p.tc f) (P := p.prog) (call := run p.prog n) (lvl := 2 * n) (pg := pg) (w := w) (K := K) (mg := mg) (base := base) (dfl := f.dfl) (n := fuelE) (m := fuelE) F (PD.scope wf hm) (facts_ok wf says KX G (calls_ok wf hxc hB says KX G n) f) (excF_ok wf hxc says KX G f) nd rfl rfl
    obtain ⟨b1, b2, b3⟩ := hB f hm
    refine ⟨fd, f.ps, F.kp, by rw [er]; exact ok, fun j ⟨xs, st, hl, hnb⟩ => ?_⟩
    rw [er] at hnb ⊢
    have hc : xs.length ≤ f.ps.length ∧ f.ps.length ≤ xs.length + f.dfl.length := by
      by_cases hc : xs.length ≤ f.ps.length ∧ f.ps.length ≤ xs.length + f.dfl.length
      · exact hc
      · exact (hnb (by unfold evF; exact if_neg hc)).elim
    obtain ⟨ds, v1, v2⟩ := b1 K _ fd F (j + f.dfl.length - f.ps.length) (by omega)
    refine ⟨ds, (f.d.dvs K).drop (j + f.dfl.length - f.ps.length), f.dfl.drop (j + f.dfl.length - f.ps.length), ⟨by rw [List.length_drop]; omega, v2, v1, fun as H => (b2 K as H).drop _, fun ys st2 hy => ?_⟩⟩
    unfold evF
    have c1 : ys.length ≤ (p.fn f).np ∧ (p.fn f).np ≤ ys.length + (p.fn f).dfl.length := ⟨by show ys.length ≤ f.ps.length; omega, by show f.ps.length ≤ ys.length + f.dfl.length; omega⟩
    have c2 : (ys ++ (f.dfl.drop (j + f.dfl.length - f.ps.length)).map SV.d).length = f.ps.length := by
      rw [List.length_append, List.length_map, List.length_drop]; omega
    rw [if_pos c1, if_pos (by rw [c2]; exact ⟨Nat.le_refl _, Nat.le_add_right _ _⟩)]
    have e1 : (p.fn f).dfl.drop (ys.length + (p.fn f).dfl.length - (p.fn f).np) = f.dfl.drop (j + f.dfl.length - f.ps.length) := by
      show f.dfl.drop (ys.length + f.dfl.length - f.ps.length) = _
      rw [hy]
    have e2 : (p.fn f).dfl.drop ((ys ++ (f.dfl.drop (j + f.dfl.length - f.ps.length)).map SV.d).length + (p.fn f).dfl.length - (p.fn f).np) = [] := by
      rw [c2]
      exact List.drop_eq_nil_of_le (by show f.dfl.length ≤ f.ps.length + f.dfl.length - f.ps.length; omega)
    rw [e1, e2, List.map_nil, List.append_nil]
end
/-- a law's end -/
theorem law_end {p : PD} {l : PySem.W.OpenLaw} {m n L : Nat} {q : Program} {loose : List Str} {XP : (Str → Option Value) → Heap → Prop} {ts : List He.Tab} {tf : List He.Defn} {ex : PySem.W.Frag → Bool} {k0 : Nat} {d : DefRec} {f : PFn} {x : Str}
    (hn : l.most = some m) (hn2 : m ≤ sizeLine) (hdf : d.params.defaults = []) (hr : Room (2 * n + 2) callerA) (wf : p.wf = true) (hB : ∀ f ∈ p.fns, BindF f) (hL : p.fns[L]? = some f) (hps : f.ps = [x]) (hat : f.d.at_ = (d.name, none)) (hdfl : f.d.dfl = [])
    (hbd : ∀ (kV doc pm : Value) (an : Option Addr) (cdv ct : Value) (us : List Value), us.length = f.ps.length → bindArgs (PySem.W.fnOf f.d.name f.d.qual f.d.params f.d.body f.d.scope .none kV doc pm an cdv ct) ⟨us, []⟩ = pure (f.ps.zip us))
    (hgl : p.gl.lookup d.name = some (.fn L))
    (hrun : ∀ ns : List Int, ns.length ≤ m → ∃ st, run p.prog (n + 1) L [.d (.scr ns)] [] = .ok (.bl true) st) :
    PySem.W.WalkO q loose XP (He.hookX k0 p.fas (p.fns.map (·.d)) ts tf ex).says l.row.toRowW d [] (fun f vs => PySem.call f vs) := by
  refine Att.attach_callB hn hdf fun w s₀ s₁ mg mb fa o pm cd doc a vs ns G Y ho hd hcd hmg hobj hints hlen hbits hg => ?_
  obtain ⟨K, KX, says⟩ := Y
  have sd : He.SaysD p.fas (p.fns.map (·.d)) K := says.t.d
  letI tb : Tb := ⟨[], p.exc.map (·.1)⟩
  have efa : fa = He.fAd K f.d.at_ := by
    have z := He.glo_ok KX G.T.g (sd.facts (fa_gl (mem_lk hgl) (f := .glo d.name) (by simp [glFa])))
    rw [hmg] at z
    cases z
    rw [hat]
    rfl
  obtain ⟨fd0, F0⟩ := sd.defs (d := f.d) (List.mem_map.mpr ⟨f, List.mem_of_getElem? hL, rfl⟩)
  have F1 : FunD K f.d.name f.d.qual f.d.params f.d.body f.d.scope [] (f.d.kws K) (He.fAd K f.d.at_) fd0 := by
    have := F0
    unfold He.DefD.dvs at this
    rw [hdfl] at this
    exact this
  have bA := FunD.bindsA F1 hbd
  have hm := List.mem_of_getElem? hL
  have er : run p.prog (n + 1) L = evF p.prog (run p.prog n) (p.fn f) := by
    funext as st
    show (match p.prog.fns[L]? with
      | some F => evF p.prog (run p.prog n) F as st
      | none => .bad) = _
    rw [show p.prog.fns[L]? = some (p.fn f) by show (p.fns.map p.fn)[L]? = _; rw [List.getElem?_map, hL]; rfl]
  have nd : p.nm.Nodup := by
    have wf := wf
    unfold PD.wf at wf
    simp only [Bool.and_eq_true, decide_eq_true_eq] at wf
    exact wf.1.1.1.1
  have key : ∀ base : Heap, K.In base → base.Ns mainGlobals mg → FnOk l.prog w K mg base (L2.CX l.prog w) (2 * n + 2) fa fd0 [x] (SpQ p.nm K mg 1 (run p.prog (n + 1) L)) := fun base hb1 hb2 => by
    rw [er, efa]
    have ok := fn_ok (C := p.tc f) (P := p.prog) (call := run p.prog n) (lvl := 2 * n) (pg := l.prog) (w := w) (K := K) (mg := mg) (base := base) (dfl := f.dfl) (n := fuelE) (m := fuelE) F0 (PD.scope wf hm) (facts_ok wf sd KX G.T.g (calls_ok wf rfl hB sd KX G.T.g n) f) (excF_ok wf rfl sd KX G.T.g f) nd rfl rfl
    rw [hps] at ok
    have e2 : p.fn f = ⟨[x].length, f.dfl, (p.tc f).N.length, esB (p.tc f) f.d.scope fuelE fuelE f.d.body⟩ := by unfold PD.fn; rw [hps]; rfl
    rw [e2]
    exact ok
  exact law_call KX G.T.g G.T.b G.T.builtins G.T.nolimit hg hobj hints (Nat.le_trans hlen hn2) hr key (fun s u => by have := bA s [u] (by rw [hps]; rfl); rw [hps] at this; exact this)
    (fun H hO hS => ⟨[], [], [.d (.scr ns)], rfl, ⟨List.nodup_nil, rfl, fun i o p h1 h2 => by simp at h2, fun p hp => by cases hp⟩, ⟨_, [], rfl, ⟨a, rfl, by
      rcases hS with (h1 | ⟨o, h1⟩) | h1
      · rcases hO a with z | ⟨o, xs, z⟩
        · rw [h1] at z; cases z
        · rw [h1] at z; cases z
      · exact .inl ⟨o, h1⟩
      · exact .inr h1⟩, rfl⟩, by
      obtain ⟨st, e⟩ := hrun ns hlen
      rw [e]
      exact fun as' H' v _ _ r => r⟩) fun H e s' ⟨_, _, _, _, _, _, _, _, _, _, _, _, z⟩ => z
end Pu
end

section
set_option linter.all false
set_option maxRecDepth 100000
set_option maxHeartbeats 4000000
namespace Pu
/-! what a run comes to, wanted -/
def R.wp {α : Type} (m : R α) (Q : α → Store → Prop) (Qe : Ex → Store → Prop := fun _ _ => False) : Prop := match m with
  | .ok a st => Q a st
  | .ex e st => Qe e st
  | .bad => False
def RS.wp (m : RS) (Q : Fl → Slots → Store → Prop) (Qe : Ex → Slots → Store → Prop := fun _ _ _ => False) : Prop := match m with
  | .ok f sl st => Q f sl st
  | .ex e sl st => Qe e sl st
  | .bad => False
section
variable {α β : Type} {Qe : Ex → Store → Prop} {Qs : Ex → Slots → Store → Prop}
@[simp] theorem R.wp_ok (a : α) (st : Store) (Q : α → Store → Prop) : (R.ok a st).wp Q Qe = Q a st := rfl
@[simp] theorem R.wp_ex (e : Ex) (st : Store) (Q : α → Store → Prop) : (R.ex e st).wp Q Qe = Qe e st := rfl
@[simp] theorem R.wp_bad (Q : α → Store → Prop) : (R.bad : R α).wp Q Qe = False := rfl
theorem R.wp_bind (m : R α) (f : α → Store → R β) (Q : β → Store → Prop) : (m.bind f).wp Q Qe = m.wp (fun a st => (f a st).wp Q Qe) Qe := by cases m <;> rfl
@[simp] theorem RS.wp_ok (f : Fl) (sl : Slots) (st : Store) (Q : Fl → Slots → Store → Prop) : (RS.ok f sl st).wp Q Qs = Q f sl st := rfl
@[simp] theorem RS.wp_ex (e : Ex) (sl : Slots) (st : Store) (Q : Fl → Slots → Store → Prop) : (RS.ex e sl st).wp Q Qs = Qs e sl st := rfl
@[simp] theorem RS.wp_bad (Q : Fl → Slots → Store → Prop) : RS.bad.wp Q Qs = False := rfl
theorem RS.wp_of (m : R α) (sl : Slots) (f : α → Store → RS) (Q : Fl → Slots → Store → Prop) : (RS.of m sl f).wp Q Qs = m.wp (fun a st => (f a st).wp Q Qs) (fun e st => Qs e sl st) := by cases m <;> rfl
theorem R.wp_mono {m : R α} {Q Q' : α → Store → Prop} (h : m.wp Q Qe) (k : ∀ a st, Q a st → Q' a st) : m.wp Q' Qe := by
  cases m with
  | ok a st => exact k a st h
  | ex e st => exact h
  | bad => exact h
theorem RS.wp_mono {m : RS} {Q Q' : Fl → Slots → Store → Prop} (h : m.wp Q Qs) (k : ∀ f sl st, Q f sl st → Q' f sl st) : m.wp Q' Qs := by
  cases m with
  | ok a sl st => exact k a sl st h
  | ex e sl st => exact h
  | bad => exact h
variable {P : Prog} {call : Nat → List SV → Store → R D}
theorem wp_nil (sl : Slots) (st : Store) (Q : Fl → Slots → Store → Prop) : (evB P call [] sl st).wp Q Qs = Q .nx sl st := by rw [evB]; rfl
theorem wp_cons (s : S) (b : List S) (sl : Slots) (st : Store) (Q : Fl → Slots → Store → Prop) : (evB P call (s :: b) sl st).wp Q Qs = (evS P call s sl st).wp (fun f sl st => match f with
    | .nx => (evB P call b sl st).wp Q Qs
    | f => Q f sl st) Qs := by
  rw [evB]
  cases evS P call s sl st with
  | ok f sl st => cases f <;> rfl
  | ex e sl st => rfl
  | bad => rfl
/-- a def's run -/
theorem wp_fn {F : Fn} {n k : Nat} {as : List SV} {st : Store} {Q : D → Store → Prop} (hF : P.fns[k]? = some F) (h1 : as.length ≤ F.np) (h2 : F.np ≤ as.length + F.dfl.length)
    (h : (evB P (run P n) F.body ((as ++ (F.dfl.drop (as.length + F.dfl.length - F.np)).map SV.d).map some ++ List.replicate (F.n - F.np) none) st).wp (fun f _ st => match f with
      | .rt d => Q d st
      | .nx => Q .non st
      | _ => False) (fun e _ st => Qe e st)) : (run P (n + 1) k as st).wp Q Qe := by
  show (match P.fns[k]? with
    | some F => evF P (run P n) F as st
    | none => .bad).wp Q Qe
  rw [hF]
  show (evF P (run P n) F as st).wp Q Qe
  unfold evF
  rw [if_pos ⟨h1, h2⟩]
  cases q : evB P (run P n) F.body ((as ++ (F.dfl.drop (as.length + F.dfl.length - F.np)).map SV.d).map some ++ List.replicate (F.n - F.np) none) st with
  | bad => rw [q] at h; exact h
  | ex e sl st => rw [q] at h; exact h
  | ok f sl st =>
    rw [q] at h
    cases f with
    | nx => exact h
    | rt d => exact h
    | bk => exact h.elim
    | ct => exact h.elim
theorem wp_eq {m : R α} {a : α} {st : Store} (h : m.wp (fun b st' => b = a ∧ st' = st)) : m = .ok a st := by
  cases m with
  | ok b s => obtain ⟨rfl, rfl⟩ := h; rfl
  | ex e s => exact h.elim
  | bad => exact h.elim
/-- a loop's invariant -/
theorem wp_forL {f : D → Slots → Store → RS} {src : List (Nat × O)} {Q : Fl → Slots → Store → Prop} (I : List D → Slots → Store → Prop) : ∀ (xs : List D) (sl : Slots) (st : Store), I xs sl st →
    (∀ xs sl st, I xs sl st → stays st src = true) →
    (∀ x xs sl st, I (x :: xs) sl st → (f x sl st).wp (fun fl sl st => match fl with
      | .nx => I xs sl st
      | .ct => I xs sl st
      | .bk => Q .nx sl st
      | .rt d => Q (.rt d) sl st) Qs) → (∀ sl st, I [] sl st → Q .nx sl st) → (forL f src xs sl st).wp Q Qs
  | [], sl, st, h, hs, _, hd => by
    unfold forL
    rw [if_pos (hs _ _ _ h)]
    exact hd sl st h
  | x :: xs, sl, st, h, hs, ht, hd => by
    unfold forL
    rw [if_pos (hs _ _ _ h)]
    have := ht x xs sl st h
    cases q : f x sl st with
    | bad => rw [q] at this; exact this
    | ex e sl2 st2 => rw [q] at this; exact this
    | ok fl sl2 st2 =>
      rw [q] at this
      cases fl with
      | nx => exact wp_forL I xs sl2 st2 this hs ht hd
      | ct => exact wp_forL I xs sl2 st2 this hs ht hd
      | bk => exact this
      | rt d => exact this
/-- a walk that locks nothing -/
theorem wp_fin {w : Walk} (h : w.lk = none) (m : RS) (Q : Fl → Slots → Store → Prop) : (m.fin w).wp Q Qs = m.wp Q Qs := by
  obtain ⟨xs, src, lk⟩ := w
  cases h
  cases m <;> rfl
end
end Pu
end

section
set_option Elab.async false
set_option linter.all false
set_option maxRecDepth 100000
set_option maxHeartbeats 0
namespace Law
open PySem PySem.Spec PyProof.Rows L2 Pu
abbrev R : PySem.W.OpenRow := PySem.W.OpenLaw.row PySem.Challenge.rw_roomward_k11_names_known
def top (i : Nat) : Stmt := PySem.Challenge.rw_roomward_k11_names_known.prog.main.body.getD i (.Pass ⟨0, 0, 0, 0⟩)
def mem (s : Stmt) (j : Nat) : Stmt := match s with
  | .ClassDef _ _ _ b _ _ _ _ _ _ _ => b.getD j (.Pass ⟨0, 0, 0, 0⟩)
  | _ => .Pass ⟨0, 0, 0, 0⟩
def nm : List Str := ([] : List (Str))
def gl : List (Str × Pu.G) := ([("all", .free), ("LETTERS", .con 0), ("isinstance", .free), ("str", .free), ("MOST_SIGNS", .con 1), ("len", .free), ("FIGURES", .con 2), ("_law_mixed", .fn 1), ("_law_cell_at", .fn 2), ("range", .free), ("is_name", .fn 0), ("bool", .free), ("int", .free), ("law", .fn 3)] : List (Str × Pu.G))
def f0 : PFn := ⟨⟨⟨"is_name", none⟩, "is_name", "is_name", defArgs (top 4), defBody (top 4), defScope (top 4), [], []⟩, ["thing"], ["thing", "sign"], []⟩ -- is_name
def f1 : PFn := ⟨⟨⟨"_law_mixed", none⟩, "_law_mixed", "_law_mixed", defArgs (top 6), defBody (top 6), defScope (top 6), [], []⟩, ["_law_cell", "_law_k"], ["_law_cell", "_law_k", "_law_one"], []⟩ -- _law_mixed
def f2 : PFn := ⟨⟨⟨"_law_cell_at", none⟩, "_law_cell_at", "_law_cell_at", defArgs (top 7), defBody (top 7), defScope (top 7), [], []⟩, ["_law_script", "_law_k"], ["_law_script", "_law_k"], []⟩ -- _law_cell_at
def f3 : PFn := ⟨⟨⟨"law", none⟩, "law", "law", defArgs (top 8), defBody (top 8), defScope (top 8), [], []⟩, ["_law_script"], ["_law_script", "_law_cell", "_law_some", "_law_size", "_law_thing", "_law_k", "_law_due", "_law_found", "_law_many", "_law_signs", "_law_at"], []⟩ -- law
def pd : PD := { nm := nm, gl := gl, fns := ([f0, f1, f2, f3] : List (PFn)), con := [(0, .str [97, 98, 99, 100, 101, 102, 103, 104, 105, 106, 107, 108, 109, 110, 111, 112, 113, 114, 115, 116, 117, 118, 119, 120, 121, 122]), (1, .int 8), (2, .str [48, 49, 50, 51, 52, 53, 54, 55, 56, 57])], meth := ([] : List ((Nat × Nat) × Nat)), init := [], exc := ([] : List (Nat × List Nat × List Nat)), fld := [] }
def loose : List Str := (["LETTERS", "FIGURES", "MOST_SIGNS", "is_name", "_law_mixed", "_law_cell_at"] : List (Str))
abbrev fnl : List He.DefD := pd.fns.map (·.d)
abbrev hk : PySem.W.Hook := He.hookX 6 pd.fas fnl [] [] (fun _ => true)
def ob (s : PySem.W.SharedT) : He.AlX := He.obsX 6 pd.fas fnl [] [] (fun _ => true) (HandSHeadRun.getT s)
theorem ob_eq (s : PySem.W.SharedT) : ob s = hk.obs s.abs := He.obsX_eq (HandSHeadRun.getT_eq s)
theorem run_eq (w : World) : HandSHeadRun.RunEq R (PySem.W.view R.prog [8]) hk ob 20000 loose w := by
  intro os
  kernel_rfl
theorem wf : pd.wf = true := by decide +kernel
theorem b0 : BindF f0 := bindF0 rfl rfl fun _ _ _ _ _ _ us hl => match us, hl with | [_], _ => rfl
theorem b1 : BindF f1 := bindF0 rfl rfl fun _ _ _ _ _ _ us hl => match us, hl with | [_, _], _ => rfl
theorem b2 : BindF f2 := bindF0 rfl rfl fun _ _ _ _ _ _ us hl => match us, hl with | [_, _], _ => rfl
theorem b3 : BindF f3 := bindF0 rfl rfl fun _ _ _ _ _ _ us hl => match us, hl with | [_], _ => rfl
theorem hB : ∀ f ∈ pd.fns, BindF f := by
  intro f hf
  simp only [pd, List.cons_append, List.nil_append, List.mem_cons, List.not_mem_nil, or_false] at hf
  rcases hf with h | h | h | h
  · rw [h]; exact b0
  · rw [h]; exact b1
  · rw [h]; exact b2
  · rw [h]; exact b3
end Law
end

section
set_option linter.all false
set_option maxRecDepth 100000
set_option maxHeartbeats 4000000
namespace Law
open Pu
abbrev P : Prog := pd.prog
def let26 : Txt := [97, 98, 99, 100, 101, 102, 103, 104, 105, 106, 107, 108, 109, 110, 111, 112, 113, 114, 115, 116, 117, 118, 119, 120, 121, 122]
def fig10 : Txt := [48, 49, 50, 51, 52, 53, 54, 55, 56, 57]
def odd : Txt := [32, 33, 34, 35, 36, 38, 39, 40, 41, 42, 43, 44, 45, 46, 47, 58, 59, 60, 61, 62, 63, 64, 65, 66, 67, 68, 69] ++ [70, 71, 72, 73, 74, 75, 76, 77, 78, 79, 80, 81, 82, 83, 84, 85, 86, 87, 88, 89, 90, 91, 92, 93, 94, 95, 96] ++ [123, 124, 125, 126]
def tName : E := (E.isty 0 (E.loc 0)).not.or
      ((E.chain Cop.le Cop.le (E.int 1) (E.blt Bf.len [E.loc 0]) (E.glo 1)).not.or
        (E.cmp Cop.nin ((E.loc 0).sub (E.int 0)) (E.glo 0)))
def eName : E := E.blt Bf.all [(E.cmp Cop.inn (E.loc 1) (E.bin Bop.add (E.glo 0) (E.glo 2))).comp (Tg.nm 1) (E.loc 0).itr [] [1]]
def B0 : List S := [S.ife tName [S.ret (E.bl false)] [], S.ret eName]
def B1 : List S := [S.asg (Tg.nm 2)
    (E.bin Bop.mod
      (E.bin Bop.mul (E.bin Bop.add (E.loc 0) (E.bin Bop.mul (E.int 7919) (E.loc 1)))
        (E.int 48271))
      (E.int 2147483647)),
  S.ret
    (E.bin Bop.mod
      (E.bin Bop.mul (E.loc 2)
        (E.bin Bop.add (E.bin Bop.add (E.loc 2) (E.bin Bop.mul (E.int 2) (E.loc 1))) (E.int 1)))
      (E.int 2147483629))]
def Bfor : List S := [S.asg (Tg.nm 8)
        ((E.lst [E.int 36, E.int 26]).sub
          (E.blt Bf.int
            [(E.cmp Cop.eq (E.loc 5) (E.int 0)).and
                (E.cmp Cop.gt (E.bin Bop.mod (E.bin Bop.fdv (E.loc 1) (E.int 11)) (E.int 4))
                  (E.int 0))])),
      S.asg (Tg.nm 4)
        (E.bin Bop.add (E.loc 4)
          ((E.loc 2).sub
            (E.bin Bop.mod (E.call 2 [E.loc 0, E.bin Bop.add (E.int 2) (E.loc 5)]) (E.loc 8))))]
def Sodd : S := S.ife
    (E.cmp Cop.eq (E.bin Bop.mod (E.bin Bop.fdv (E.loc 1) (E.int 44)) (E.int 3))
      (E.int 1))
    [S.asg (Tg.nm 9)
        (E.str odd),
      S.asg (Tg.nm 10)
        (E.bin Bop.mod (E.call 2 [E.loc 0, E.int 1]) (E.bin Bop.add (E.loc 3) (E.int 1))),
      S.asg (Tg.nm 4)
        (E.bin Bop.add
          (E.bin Bop.add ((E.loc 4).sli none (some (E.loc 10)))
            ((E.loc 9).sub
              (E.bin Bop.mod (E.bin Bop.fdv (E.call 2 [E.loc 0, E.int 1]) (E.int 11))
                (E.blt Bf.len [E.loc 9]))))
          ((E.loc 4).sli (some (E.loc 10)) none)),
      S.asg (Tg.nm 6) (E.bl false)]
    []
def Skind : S := S.ife
    (E.cmp Cop.eq (E.bin Bop.mod (E.bin Bop.fdv (E.loc 1) (E.int 132)) (E.int 5))
      (E.int 1))
    [S.asg (Tg.nm 4)
        ((E.lst
              [E.non, E.int 5, E.bl true, E.lst [E.str [97]], E.tup [E.str [97]],
                E.dic [E.str [97], E.int 1], E.str [], E.lst [E.str [97], E.str [98]]]).sub
          (E.bin Bop.mod (E.call 2 [E.loc 0, E.int 1]) (E.int 8))),
      S.asg (Tg.nm 6) (E.bl false)]
    []
def B3 : List S := [S.asg (Tg.nm 1) (E.call 2 [E.loc 0, E.int 0]),
  S.asg (Tg.nm 2)
    (E.str (let26 ++ fig10)),
  S.asg (Tg.nm 3) (E.bin Bop.mod (E.loc 1) (E.int 11)), S.asg (Tg.nm 4) (E.str []),
  S.for_ (Tg.nm 5) (E.loc 3).rng1 Bfor,
  S.asg (Tg.nm 6)
    ((E.chain Cop.le Cop.le (E.int 1) (E.loc 3) (E.int 8)).and
      (E.cmp Cop.nin ((E.loc 4).sub (E.int 0)) (E.str fig10))),
  Sodd, Skind,
  S.asg (Tg.nm 7) (E.call 0 [E.loc 4]), S.ret ((E.isty 1 (E.loc 7)).and (E.cmp Cop.eq (E.loc 7) (E.loc 6)))]
def B2 : List S := [S.ife (E.cmp Cop.lt (E.loc 1) (E.blt Bf.len [E.loc 0])) [S.ret (E.call 1 [(E.loc 0).sub (E.loc 1), E.loc 1])] [],
  S.ret (E.int 0)]
theorem hF0 : P.fns[0]? = some ⟨1, [], 2, B0⟩ := by kernel_rfl
theorem hF1 : P.fns[1]? = some ⟨2, [], 3, B1⟩ := by kernel_rfl
theorem hF2 : P.fns[2]? = some ⟨2, [], 2, B2⟩ := by kernel_rfl
theorem hF3 : P.fns[3]? = some ⟨1, [], 11, B3⟩ := by kernel_rfl
theorem con0 : P.con.lookup 0 = some (.str let26) := rfl
theorem con1 : P.con.lookup 1 = some (.int 8) := rfl
theorem con2 : P.con.lookup 2 = some (.str fig10) := rfl
def mixed (c k : Int) : Int :=
  let one := ((c + 7919 * k) * 48271).fmod 2147483647
  (one * (one + 2 * k + 1)).fmod 2147483629
theorem mixed_run (n : Nat) (c k : Int) (st : Store) : run P (n + 1) 1 [.d (.int c), .d (.int k)] st = .ok (.int (mixed c k)) st := by
  refine wp_eq (wp_fn hF1 (by simp) (by simp) ?_)
  have e1 : (-bigI < 7919 ∧ (7919 : Int) < bigI) := by decide
  have e2 : (-bigI < 48271 ∧ (48271 : Int) < bigI) := by decide
  have e4 : (-bigI < 2 ∧ (2 : Int) < bigI) := by decide
  have e3 : (-bigI < ((c + 7919 * k) * 48271).fmod 2147483647 ∧ ((c + 7919 * k) * 48271).fmod 2147483647 < bigI) := by
    have h1 := Int.fmod_nonneg_of_pos ((c + 7919 * k) * 48271) (b := 2147483647) (by decide)
    have h2 := Int.fmod_lt_of_pos ((c + 7919 * k) * 48271) (b := 2147483647) (by decide)
    unfold bigI
    omega
  simp [B1, wp_cons, wp_nil, evS, evE, RS.wp_of, binD, addD, mulD, modD, assign, e1, e2, e3, e4, R.wp_bind, mixed]
def cellAt (ns : List Int) (k : Nat) : Int := match ns[k]? with
  | some c => mixed c k
  | none => 0
theorem cell_run (n : Nat) (ns : List Int) (k : Nat) (st : Store) : run P (n + 2) 2 [.d (.scr ns), .d (.int k)] st = .ok (.int (cellAt ns k)) st := by
  refine wp_eq (wp_fn hF2 (by simp) (by simp) ?_)
  by_cases h : k < ns.length
  · have h0 : ¬ ((k : Int) < 0) := by omega
    simp [B2, wp_cons, wp_nil, evS, evE, evEs, RS.wp_of, bltD, lenD, seqAt, subD, subL, ixN, dicAt, obj, cmpD, ltD, truth, R.wp_bind, h, h0, mixed_run, cellAt]
  · simp [B2, wp_cons, wp_nil, evS, evE, evEs, RS.wp_of, bltD, lenD, seqAt, subD, subL, ixN, dicAt, obj, cmpD, ltD, truth, R.wp_bind, h, mixed_run, cellAt]
/-- what is_name says of a text -/
def isName (s : Txt) : Bool := decide (1 ≤ s.length) && decide (s.length ≤ 8) && decide (s.headD 0 ∈ let26) && s.all (fun c => decide (c ∈ let26 ++ fig10))
theorem wp_compAll {P : Prog} (f : D → Store → Pu.R (Option D)) (g : Nat → Bool) (s : Txt) (acc : List D) (st : Store) (hf : ∀ c ∈ s, f (.str [c]) st = .ok (some (.bl (g c))) st) :
    compL f [] (s.map fun c => .str [c]) acc st = .ok (acc ++ s.map fun c => .bl (g c)) st := by
  induction s generalizing acc with
  | nil => simp [compL, stays]
  | cons c s ih =>
    have h1 := hf c (List.mem_cons_self ..)
    simp only [List.map_cons, compL, h1]
    simp only [stays, List.all_nil, if_true]
    rw [ih _ fun c hc => hf c (List.mem_cons_of_mem _ hc)]
    simp
theorem blsD_map (g : Nat → Bool) (s : Txt) : blsD (s.map fun c => .bl (g c)) = some (s.map g) := by
  induction s with
  | nil => rfl
  | cons c s ih => simp only [blsD, List.map_cons, List.mapM_cons] at *; rw [ih]; rfl
theorem comp_name (call : Nat → List SV → Store → Pu.R D) (s : Txt) (st : Store) (hs : s.length ≤ 100) : evE P call ((E.cmp Cop.inn (E.loc 1) (E.bin Bop.add (E.glo 0) (E.glo 2))).comp (Tg.nm 1) (E.loc 0).itr [] [1]) [some (SV.d (.str s)), none] st = new (.lst (s.map fun c => .bl (decide (c ∈ let26 ++ fig10)))) st := by
  have hl : s.length ≤ lim := by unfold lim; omega
  simp only [evE, evI, List.getElem?_cons_zero, Pu.R.ok_bind, List.length_map, hl, if_true, Walk.lock, Walk.held, Walk.free]
  rw [wp_compAll (P := P) _ (fun c => decide (c ∈ let26 ++ fig10)) s [] st (fun d hd => by
    simp [assign, wipe, noX, evTs, evE, con0, con2, binD, addD, cmpD, inD, inS, let26, fig10, lim])]
  rfl
theorem name_str (n : Nat) (s : Txt) (st : Store) (hs : s.length ≤ 100) : (run P (n + 1) 0 [.d (.str s)] st).wp fun d st' => d = .bl (isName s) := by
  refine wp_fn hF0 (by simp) (by simp) ?_
  have hl : s.length ≤ lim := by unfold lim; omega
  have hT : evE P (run P n) tName [some (SV.d (.str s)), none] st = .ok (.bl (!(decide (1 ≤ s.length) && decide (s.length ≤ 8) && decide (s.headD 0 ∈ let26)))) st := by
    cases s with
    | nil => simp [tName, evE, evEs, bltD, lenD, subD, subS, ixN, cmpD, leD, truth, istyD, lim, con1]
    | cons c s =>
      have hl' : s.length + 1 ≤ lim := hl
      have h1' : (1 : Int) ≤ (s.length : Int) + 1 := by omega
      have h0' : (0 : Int) < (s.length : Int) + 1 := by omega
      by_cases h8 : s.length + 1 ≤ 8
      · have h8' : (s.length : Int) + 1 ≤ 8 := by omega
        simp [tName, evE, evEs, bltD, lenD, subD, subS, ixN, cmpD, leD, truth, istyD, con0, con1, inD, inS, hl', h8', h8, h1', h0']
      · have h8' : ¬ (s.length : Int) + 1 ≤ 8 := by omega
        simp [tName, evE, evEs, bltD, lenD, subD, subS, ixN, cmpD, leD, truth, istyD, con0, con1, inD, inS, hl', h8', h8, h1', h0']
  have h9 : evE P (run P n) eName [some (SV.d (.str s)), none] st = .ok (.bl (s.all fun c => decide (c ∈ let26 ++ fig10))) (st ++ [.lst (s.map fun c => .bl (decide (c ∈ let26 ++ fig10)))]) := by
    rw [eName, evE, evEs, comp_name (run P n) s st hs]
    simp only [new, Pu.R.ok_bind, evEs, bltD, allD, lstAt, obj, List.getElem?_concat_length, Option.bind_some, blsD_map, Option.map_some, R.ofO_some, List.all_map]
    rfl
  have hi : isName s = ((decide (1 ≤ s.length) && decide (s.length ≤ 8) && decide (s.headD 0 ∈ let26)) && s.all (fun c => decide (c ∈ let26 ++ fig10))) := rfl
  show (evB P (run P n) B0 [some (SV.d (.str s)), none] st).wp _ _
  rw [hi]
  cases hb : (decide (1 ≤ s.length) && decide (s.length ≤ 8) && decide (s.headD 0 ∈ let26)) with
  | true => rw [hb] at hT; simp only [B0, wp_cons, wp_nil, evS, RS.wp_of, R.wp_bind, hT, truth, h9, R.wp_ok, R.ofO_some, Bool.not_true, Bool.false_eq_true, if_false, RS.wp_ok, Bool.true_and]
  | false => rw [hb] at hT; simp only [B0, wp_cons, wp_nil, evS, RS.wp_of, R.wp_bind, hT, truth, evE, R.wp_ok, R.ofO_some, Bool.not_false, if_true, RS.wp_ok, Bool.false_and]
theorem name_kind (n : Nat) (d : D) (st : Store) (hd : istyD 0 d st = .ok (.bl false) st) : (run P (n + 1) 0 [.d d] st).wp fun r _ => r = .bl false := by
  refine wp_fn hF0 (by simp) (by simp) ?_
  show (evB P (run P n) B0 [some (SV.d d), none] st).wp _ _
  have hT : evE P (run P n) tName [some (SV.d d), none] st = .ok (.bl true) st := by
    simp [tName, evE, hd, truth]
  simp [B0, wp_cons, wp_nil, evS, RS.wp_of, R.wp_bind, hT, truth, evE]
def s36 : Txt := let26 ++ fig10
theorem s36_sub (i m : Int) (h0 : 0 < m) (hm : m ≤ 36) : ∃ c ∈ s36, subS s36 (.int (i.fmod m)) = some (.str [c]) := by
  have h1 := Int.fmod_nonneg_of_pos i h0
  have h2 := Int.fmod_lt_of_pos i h0
  generalize i.fmod m = j at *
  have h3 : j.toNat < 36 := by omega
  have h4 : j = (j.toNat : Int) := by omega
  generalize j.toNat = k at *
  subst h4
  have hl : s36.length = 36 := by decide
  have hk : k < s36.length := by omega
  refine ⟨s36[k], List.getElem_mem hk, ?_⟩
  have : ¬ ((k : Int) < 0) := by omega
  have h5 : (k : Int) < 36 := by omega
  simp [subS, hl, lim, ixN, h5, this, hk]
theorem odd_sub (i : Int) : ∃ c ∈ odd, subS odd (.int (i.fmod (odd.length : Int))) = some (.str [c]) := by
  have hl : odd.length = 58 := by decide
  rw [hl]
  have h1 := Int.fmod_nonneg_of_pos i (b := ((58 : Nat) : Int)) (by decide)
  have h2 := Int.fmod_lt_of_pos i (b := ((58 : Nat) : Int)) (by decide)
  generalize i.fmod ((58 : Nat) : Int) = j at *
  have h3 : j.toNat < 58 := by omega
  have h4 : j = (j.toNat : Int) := by omega
  generalize j.toNat = k at *
  subst h4
  have hk : k < odd.length := by omega
  refine ⟨odd[k], List.getElem_mem hk, ?_⟩
  have : ¬ ((k : Int) < 0) := by omega
  have h5 : (k : Int) < 58 := by omega
  simp [subS, hl, lim, ixN, h5, this, hk]
theorem isName_odd (a b : Txt) (c : Nat) (hc : c ∈ odd) : isName (a ++ [c] ++ b) = false := by
  have : c ∉ s36 := by
    intro h
    have : ∀ c ∈ odd, c ∉ s36 := by decide
    exact this c hc h
  have h2 : (a ++ [c] ++ b).all (fun c => decide (c ∈ let26 ++ fig10)) = false := by
    simp only [List.all_append, List.all_cons, List.all_nil]
    have : decide (c ∈ let26 ++ fig10) = false := by simpa [s36] using this
    rw [this, Bool.false_and, Bool.and_false, Bool.false_and]
  unfold isName
  rw [h2, Bool.and_false]
theorem isName_due (t : Txt) (ht : ∀ c ∈ t, c ∈ s36) : isName t = (decide (1 ≤ t.length) && decide (t.length ≤ 8) && !decide (t.headD 0 ∈ fig10)) := by
  have h2 : t.all (fun c => decide (c ∈ let26 ++ fig10)) = true := List.all_eq_true.2 fun c hc => decide_eq_true (ht c hc)
  unfold isName
  rw [h2, Bool.and_true]
  cases t with
  | nil => rfl
  | cons c t =>
    congr 1
    have h := ht c (List.mem_cons_self ..)
    have : ∀ c ∈ s36, decide (c ∈ let26) = !decide (c ∈ fig10) := by decide
    exact this c h
end Law
end

section
set_option linter.all false
set_option maxRecDepth 100000
set_option maxHeartbeats 4000000
namespace Law
open Pu
def sl0 (ns : List Int) (c0 z : Int) (x x5 x6 x8 x9 x10 : Option SV) : Slots := [some (.d (.scr ns)), some (.d (.int c0)), some (.d (.str s36)), some (.d (.int z)), x, x5, x6, none, x8, x9, x10]
theorem cell0 (n : Nat) (ns : List Int) (st : Store) : run P (n + 2) 2 [.d (.scr ns), .d (.int 0)] st = .ok (.int (cellAt ns 0)) st := cell_run n ns 0 st
theorem cell1 (n : Nat) (ns : List Int) (st : Store) : run P (n + 2) 2 [.d (.scr ns), .d (.int 1)] st = .ok (.int (cellAt ns 1)) st := cell_run n ns 1 st
/-- one more sign -/
theorem for_step (ns : List Int) (c0 z : Int) (k : Nat) (t : Txt) (x5 x8 : Option SV) (st : Store) (ht : t.length ≤ 100) : (evB P (run P 10) Bfor (sl0 ns c0 z (some (.d (.str t))) (some (.d (.int k))) none x8 none none) st).wp fun f sl st => match f with
    | .nx => ∃ c ∈ s36, ∃ x8, sl = sl0 ns c0 z (some (.d (.str (t ++ [c])))) (some (.d (.int k))) none x8 none none
    | _ => False := by
  have hx : ∃ m : Int, 0 < m ∧ m ≤ 36 ∧ evE P (run P 10) ((E.lst [E.int 36, E.int 26]).sub
          (E.blt Bf.int
            [(E.cmp Cop.eq (E.loc 5) (E.int 0)).and
                (E.cmp Cop.gt (E.bin Bop.mod (E.bin Bop.fdv (E.loc 1) (E.int 11)) (E.int 4))
                  (E.int 0))])) (sl0 ns c0 z (some (.d (.str t))) (some (.d (.int k))) none x8 none none) st = .ok (.int m) (st ++ [.lst [.int 36, .int 26]]) := by
    by_cases h0 : k = 0
    · subst h0
      by_cases h1 : 0 < (c0.fdiv 11).fmod 4
      · exact ⟨26, by decide, by decide, by simp [sl0, evE, evEs, bltD, intD, subD, subL, ixN, cmpD, eqD, gtD, tree, deep, T.eqv, truth, fdvD, modD, binD, new, dicAt, seqAt, lstAt, obj, h1, lim]⟩
      · exact ⟨36, by decide, by decide, by simp [sl0, evE, evEs, bltD, intD, subD, subL, ixN, cmpD, eqD, gtD, tree, deep, T.eqv, truth, fdvD, modD, binD, new, dicAt, seqAt, lstAt, obj, h1, lim]⟩
    · have h0' : ¬ ((k : Int) = 0) := by omega
      exact ⟨36, by decide, by decide, by simp [sl0, evE, evEs, bltD, intD, subD, subL, ixN, cmpD, eqD, gtD, tree, deep, T.eqv, truth, fdvD, modD, binD, new, dicAt, seqAt, lstAt, obj, h0, h0', lim]⟩
  obtain ⟨m, h0, hm, hx⟩ := hx
  obtain ⟨c, hc, hs⟩ := s36_sub (cellAt ns (2 + k)) m h0 hm
  have hl : t.length + 1 ≤ lim := by unfold lim; omega
  have hm0 : m ≠ 0 := by omega
  have hcell := fun st => cell_run 8 ns (2 + k) st
  have e2 : ((2 + k : Nat) : Int) = 2 + (k : Int) := by omega
  rw [e2] at hcell
  simp only [Bfor, wp_cons, wp_nil, evS, RS.wp_of, hx, assign, R.wp_ok, RS.wp_ok]
  refine ?_
  simp [sl0, evE, evEs, binD, addD, modD, subD, hcell, hm0, hs, hl, R.wp_bind]
  exact hc
/-- the places from k on -/
def rest (k z : Nat) : List D := (List.range' k (z - k)).map fun (i : Nat) => D.int (i : Int)
theorem rest_0 (z : Nat) : rest 0 z = range 0 (z : Int) := by
  have : ((z : Int) - 0).toNat = z := by omega
  simp [rest, range, this, List.range_eq_range']
theorem rest_cons {x : D} {xs : List D} {k z : Nat} (hk : k ≤ z) (h : x :: xs = rest k z) : k < z ∧ x = .int k ∧ xs = rest (k + 1) z := by
  unfold rest at *
  obtain ⟨m, hm⟩ : ∃ m, z - k = m := ⟨_, rfl⟩
  rw [hm] at h
  cases m with
  | zero => cases h
  | succ m =>
    rw [List.range'_succ, List.map_cons] at h
    injection h with h1 h2
    have : z - (k + 1) = m := by omega
    rw [this]
    exact ⟨by omega, h1, h2⟩
/-- all signs -/
theorem for_run (ns : List Int) (c0 : Int) (z : Nat) (st : Store) (hz : z ≤ 10) : (evS P (run P 10) (S.for_ (Tg.nm 5) (E.loc 3).rng1 Bfor) (sl0 ns c0 z (some (.d (.str []))) none none none none none) st).wp fun f sl _ => f = .nx ∧ ∃ t x5 x8, t.length = z ∧ (∀ c ∈ t, c ∈ s36) ∧ sl = sl0 ns c0 z (some (.d (.str t))) x5 none x8 none none := by
  have hw : evI P (run P 10) (E.loc 3).rng1 (sl0 ns c0 z (some (.d (.str []))) none none none none none) st = .ok ⟨range 0 z, [], none⟩ st := by
    have : rngB (z : Int) = true := by simp [rngB]; omega
    simp [sl0, evI, evE, this]
  rw [evS, RS.wp_of, hw, R.wp_ok, wp_fin rfl]
  refine wp_forL (I := fun xs sl _ => ∃ (k : Nat) (t : Txt) (x5 x8 : Option SV), k ≤ z ∧ xs = rest k z ∧ t.length = k ∧ (∀ c ∈ t, c ∈ s36) ∧ sl = sl0 ns c0 z (some (.d (.str t))) x5 none x8 none none) _ _ _ ⟨0, [], none, none, Nat.zero_le _, (rest_0 z).symm, rfl, by simp, rfl⟩ (fun _ _ _ _ => rfl) ?_ ?_
  · intro x xs sl st ⟨k, t, x5, x8, hk, hx, ht, hc, hs⟩
    obtain ⟨h1, rfl, h3⟩ := rest_cons hk hx
    subst hs
    have := for_step ns c0 z k t x5 x8 st (by omega)
    refine RS.wp_mono this ?_
    intro f sl st hf
    cases f with
    | nx =>
      obtain ⟨c, hc', x8', rfl⟩ := hf
      refine ⟨k + 1, t ++ [c], _, x8', h1, h3, by simp [ht], ?_, rfl⟩
      intro d hd
      rcases List.mem_append.1 hd with h | h
      · exact hc d h
      · rw [List.mem_singleton.1 h]; exact hc'
    | rt d => exact hf.elim
    | bk => exact hf.elim
    | ct => exact hf.elim
  · intro sl st ⟨k, t, x5, x8, hk, hx, ht, hc, hs⟩
    have : k = z := by
      unfold rest at hx
      have := congrArg List.length hx
      simp at this
      omega
    exact ⟨rfl, t, x5, x8, by omega, hc, hs⟩
end Law
end

section
set_option linter.all false
set_option maxRecDepth 100000
set_option maxHeartbeats 4000000
namespace Law
open Pu
theorem cut_len {α : Type} (xs : List α) (lo hi : Option Int) : (cut xs lo hi).length ≤ xs.length := by
  unfold cut
  rw [List.length_take, List.length_drop]
  omega
def eOdd : E := E.bin Bop.add
          (E.bin Bop.add ((E.loc 4).sli none (some (E.loc 10)))
            ((E.loc 9).sub
              (E.bin Bop.mod (E.bin Bop.fdv (E.call 2 [E.loc 0, E.int 1]) (E.int 11))
                (E.blt Bf.len [E.loc 9]))))
          ((E.loc 4).sli (some (E.loc 10)) none)
theorem odd_val (ns : List Int) (c0 z k : Int) (t o : Txt) (c : Nat) (x5 x6 x8 : Option SV) (st : Store) (ht : t.length ≤ 10) (hl : o.length ≤ lim) (h0 : (o.length : Int) ≠ 0)
    (ho : subS o (.int (((cellAt ns 1).fdiv 11).fmod (o.length : Int))) = some (.str [c])) :
    evE P (run P 10) eOdd (sl0 ns c0 z (some (.d (.str t))) x5 x6 x8 (some (.d (.str o))) (some (.d (.int k)))) st = .ok (.str (cut t none (some k) ++ [c] ++ cut t (some k) none)) st := by
  have a := cut_len t none (some k)
  have b := cut_len t (some k) none
  have h1 : (cut t none (some k)).length + 1 ≤ lim := by unfold lim; omega
  have h2 : (cut t none (some k)).length + (1 + (cut t (some k) none).length) ≤ lim := by unfold lim; omega
  have h2' : (cut t none (some k)).length + 1 + (cut t (some k) none).length ≤ lim := by unfold lim; omega
  have h3 : t.length ≤ lim := by unfold lim; omega
  have hc := cell1 8 ns st
  have h4 : ¬ o = [] := by intro h; subst h; exact h0 rfl
  simp [eOdd, sl0, evE, evEs, evOp, binD, fdvD, modD, addD, subD, sliD, bltD, lenD, hc, hl, h0, ho, h1, h2, h2', h3, h4]
theorem odd_run (ns : List Int) (c0 z : Int) (t : Txt) (x5 x8 : Option SV) (st : Store) (ht : t.length ≤ 10) (hz : 0 ≤ z) :
    (evS P (run P 10) Sodd (sl0 ns c0 z (some (.d (.str t))) x5 (some (.d (.bl (isName t)))) x8 none none) st).wp fun f sl _ => f = .nx ∧ ∃ t x9 x10, t.length ≤ 100 ∧ sl = sl0 ns c0 z (some (.d (.str t))) x5 (some (.d (.bl (isName t)))) x8 x9 x10 := by
  have hT : ∃ b : Bool, evE P (run P 10) (E.cmp Cop.eq (E.bin Bop.mod (E.bin Bop.fdv (E.loc 1) (E.int 44)) (E.int 3)) (E.int 1)) (sl0 ns c0 z (some (.d (.str t))) x5 (some (.d (.bl (isName t)))) x8 none none) st = .ok (.bl b) st := by
    by_cases h : (c0.fdiv 44).fmod 3 = 1
    · exact ⟨true, by simp [sl0, evE, binD, fdvD, modD, cmpD, eqD, tree, deep, T.eqv, h]⟩
    · exact ⟨false, by simp [sl0, evE, binD, fdvD, modD, cmpD, eqD, tree, deep, T.eqv, h]⟩
  obtain ⟨b, hT⟩ := hT
  have hs := odd_sub ((cellAt ns 1).fdiv 11)
  obtain ⟨c, hc, hs⟩ := hs
  have hn : isName (cut t none (some ((cellAt ns 1).fmod (z + 1))) ++ [c] ++ cut t (some ((cellAt ns 1).fmod (z + 1))) none) = false := isName_odd _ _ c hc
  have hl : odd.length ≤ lim := by decide
  have h0 : (odd.length : Int) ≠ 0 := by decide
  clear hc
  have hv := fun k => odd_val ns c0 z k t odd c x5 (some (.d (.bl (isName t)))) x8 st ht hl h0 hs
  have hlen : (cut t none (some ((cellAt ns 1).fmod (z + 1))) ++ [c] ++ cut t (some ((cellAt ns 1).fmod (z + 1))) none).length ≤ 100 := by
    have a := cut_len t none (some ((cellAt ns 1).fmod (z + 1)))
    have b := cut_len t (some ((cellAt ns 1).fmod (z + 1))) none
    simp
    omega
  unfold Sodd
  generalize odd = o at *
  rw [evS, RS.wp_of, R.wp_bind, hT]
  cases b with
  | false =>
    simp only [R.wp_ok, truth, R.ofO_some, Bool.false_eq_true, if_false, wp_nil]
    exact ⟨trivial, t, none, none, by omega, rfl⟩
  | true =>
    have hm : z + 1 ≠ 0 := by omega
    have h10 : evE P (run P 10) (E.bin Bop.mod (E.call 2 [E.loc 0, E.int 1]) (E.bin Bop.add (E.loc 3) (E.int 1))) (sl0 ns c0 z (some (.d (.str t))) x5 (some (.d (.bl (isName t)))) x8 (some (.d (.str o))) none) st = .ok (.int ((cellAt ns 1).fmod (z + 1))) st := by
      have hc := cell1 8 ns st
      simp [sl0, evE, evEs, binD, modD, addD, hc, hm]
    simp only [R.wp_ok, truth, R.ofO_some, if_true]
    rw [wp_cons, evS, RS.wp_of, evE, R.wp_ok]
    simp only [assign, RS.wp_ok]
    rw [wp_cons, evS, RS.wp_of]
    have e1 : ∀ x6, (sl0 ns c0 z (some (.d (.str t))) x5 x6 x8 none none).set 9 (some (SV.d (D.str o))) = sl0 ns c0 z (some (.d (.str t))) x5 x6 x8 (some (.d (.str o))) none := fun _ => rfl
    rw [e1, h10, R.wp_ok]
    simp only [assign, RS.wp_ok]
    have e2 : ∀ x6 k, (sl0 ns c0 z (some (.d (.str t))) x5 x6 x8 (some (.d (.str o))) none).set 10 k = sl0 ns c0 z (some (.d (.str t))) x5 x6 x8 (some (.d (.str o))) k := fun _ _ => rfl
    rw [e2, wp_cons, evS, RS.wp_of]
    have hv' := hv ((cellAt ns 1).fmod (z + 1))
    unfold eOdd at hv'
    rw [hv', R.wp_ok]
    simp only [assign, RS.wp_ok]
    rw [wp_cons, evS, RS.wp_of, evE, R.wp_ok]
    simp only [assign, RS.wp_ok]
    rw [wp_nil]
    refine ⟨rfl, _, some (.d (.str o)), some (.d (.int ((cellAt ns 1).fmod (z + 1)))), hlen, ?_⟩
    rw [hn]
    rfl
end Law
end

section
set_option linter.all false
set_option maxRecDepth 100000
set_option maxHeartbeats 4000000
namespace Law
open Pu
def eKind : E := E.lst
              [E.non, E.int 5, E.bl true, E.lst [E.str [97]], E.tup [E.str [97]],
                E.dic [E.str [97], E.int 1], E.str [], E.lst [E.str [97], E.str [98]]]
def stK (st : Store) : Store := st ++ [.lst [.str [97]]] ++ [.dic [(.str [97], .int 1)]] ++ [.lst [.str [97], .str [98]]] ++ [.lst [.non, .int 5, .bl true, .ptr st.length, .tup [.str [97]], .ptr (st.length + 1), .str [], .ptr (st.length + 2)]]
theorem kind_lst (sl : Slots) (st : Store) : evE P (run P 10) eKind sl st = .ok (.ptr (st.length + 3)) (stK st) := by
  simp [eKind, evE, evEs, new, dicOf, flatK, putD, lim, stK]
theorem kind_sub (st : Store) (i : Int) : ∃ d, subD (stK st) (.ptr (st.length + 3)) (.int (i.fmod 8)) = some d ∧ (istyD 0 d (stK st) = .ok (.bl false) (stK st) ∨ d = .str []) := by
  have h1 := Int.fmod_nonneg_of_pos i (b := 8) (by decide)
  have h2 := Int.fmod_lt_of_pos i (b := 8) (by decide)
  generalize i.fmod 8 = j at *
  have hj : j = 0 ∨ j = 1 ∨ j = 2 ∨ j = 3 ∨ j = 4 ∨ j = 5 ∨ j = 6 ∨ j = 7 := by omega
  rcases hj with rfl | rfl | rfl | rfl | rfl | rfl | rfl | rfl <;> simp [stK, subD, subL, seqAt, lstAt, dicAt, obj, ixN, istyD]
theorem kind_run (ns : List Int) (c0 z : Int) (t : Txt) (x5 x8 x9 x10 : Option SV) (st : Store) (ht : t.length ≤ 100) :
    (evS P (run P 10) Skind (sl0 ns c0 z (some (.d (.str t))) x5 (some (.d (.bl (isName t)))) x8 x9 x10) st).wp fun f sl st => f = .nx ∧ ∃ d b, (run P 10 0 [.d d] st).wp (fun r _ => r = .bl b) ∧ sl = sl0 ns c0 z (some (.d d)) x5 (some (.d (.bl b))) x8 x9 x10 := by
  have hT : ∃ b : Bool, evE P (run P 10) (E.cmp Cop.eq (E.bin Bop.mod (E.bin Bop.fdv (E.loc 1) (E.int 132)) (E.int 5)) (E.int 1)) (sl0 ns c0 z (some (.d (.str t))) x5 (some (.d (.bl (isName t)))) x8 x9 x10) st = .ok (.bl b) st := by
    by_cases h : (c0.fdiv 132).fmod 5 = 1
    · exact ⟨true, by simp [sl0, evE, binD, fdvD, modD, cmpD, eqD, tree, deep, T.eqv, h]⟩
    · exact ⟨false, by simp [sl0, evE, binD, fdvD, modD, cmpD, eqD, tree, deep, T.eqv, h]⟩
  obtain ⟨b, hT⟩ := hT
  unfold Skind
  rw [evS, RS.wp_of, R.wp_bind, hT]
  cases b with
  | false =>
    simp only [R.wp_ok, truth, R.ofO_some, Bool.false_eq_true, if_false, wp_nil]
    exact ⟨trivial, .str t, isName t, name_str 9 t st ht, rfl⟩
  | true =>
    simp only [R.wp_ok, truth, R.ofO_some, if_true]
    obtain ⟨d, hd, hk⟩ := kind_sub st (cellAt ns 1)
    have hv : evE P (run P 10) (eKind.sub (E.bin Bop.mod (E.call 2 [E.loc 0, E.int 1]) (E.int 8))) (sl0 ns c0 z (some (.d (.str t))) x5 (some (.d (.bl (isName t)))) x8 x9 x10) st = .ok d (stK st) := by
      have hc := cell1 8 ns (stK st)
      rw [evE, kind_lst]
      simp [sl0, evE, evEs, binD, modD, hc, hd]
    rw [wp_cons, evS, RS.wp_of]
    unfold eKind at hv
    rw [hv, R.wp_ok]
    simp only [assign, RS.wp_ok]
    rw [wp_cons, evS, RS.wp_of, evE, R.wp_ok]
    simp only [assign, RS.wp_ok]
    rw [wp_nil]
    refine ⟨rfl, d, false, ?_, rfl⟩
    rcases hk with h | h
    · exact name_kind 9 d _ h
    · subst h
      exact name_str 9 [] _ (by simp)
theorem due_run (ns : List Int) (c0 : Int) (t : Txt) (x5 x8 : Option SV) (st : Store) (ht : t.length ≤ 10) (hc : ∀ c ∈ t, c ∈ s36) :
    evE P (run P 10) ((E.chain Cop.le Cop.le (E.int 1) (E.loc 3) (E.int 8)).and
      (E.cmp Cop.nin ((E.loc 4).sub (E.int 0)) (E.str fig10))) (sl0 ns c0 (t.length : Nat) (some (.d (.str t))) x5 none x8 none none) st = .ok (.bl (isName t)) st := by
  rw [isName_due t hc]
  generalize fig10 = o
  have hl : t.length ≤ lim := by unfold lim; omega
  cases t with
  | nil => simp [sl0, evE, cmpD, leD, truth]
  | cons c t =>
    have hl' : t.length + 1 ≤ lim := hl
    have h1' : (1 : Int) ≤ (t.length : Int) + 1 := by omega
    have h0' : (0 : Int) < (t.length : Int) + 1 := by omega
    by_cases h8 : t.length + 1 ≤ 8
    · have h8' : (t.length : Int) + 1 ≤ 8 := by omega
      have h9 : t.length ≤ 7 := by omega
      simp [sl0, evE, cmpD, leD, truth, subD, subS, ixN, inD, inS, hl', h1', h0', h8, h8', h9]
    · have h8' : ¬ (t.length : Int) + 1 ≤ 8 := by omega
      have h9 : ¬ t.length ≤ 7 := by omega
      simp [sl0, evE, cmpD, leD, truth, subD, subS, ixN, inD, inS, hl', h1', h0', h8, h8', h9]
theorem hrun : ∀ ns : List Int, ns.length ≤ 63 → ∃ st, run pd.prog (10 + 1) 3 [.d (.scr ns)] [] = .ok (.bl true) st := by
  intro ns _
  suffices h : (run pd.prog (10 + 1) 3 [.d (.scr ns)] []).wp (fun d _ => d = .bl true) by
    cases q : run pd.prog (10 + 1) 3 [.d (.scr ns)] [] with
    | ok d st => rw [q] at h; exact ⟨st, by rw [show d = .bl true from h]⟩
    | ex e st => rw [q] at h; exact h.elim
    | bad => rw [q] at h; exact h.elim
  refine wp_fn (P := P) hF3 (by simp) (by simp) ?_
  show (evB P (run P 10) B3 [some (SV.d (.scr ns)), none, none, none, none, none, none, none, none, none, none] []).wp _ _
  have hz1 := Int.fmod_nonneg_of_pos (cellAt ns 0) (b := 11) (by decide)
  have hz2 := Int.fmod_lt_of_pos (cellAt ns 0) (b := 11) (by decide)
  obtain ⟨z, hz⟩ : ∃ z : Nat, (cellAt ns 0).fmod 11 = (z : Int) := ⟨((cellAt ns 0).fmod 11).toNat, by omega⟩
  have hc0 := cell0 8 ns []
  have h1 : evE P (run P 10) (E.call 2 [E.loc 0, E.int 0]) [some (SV.d (.scr ns)), none, none, none, none, none, none, none, none, none, none] [] = .ok (.int (cellAt ns 0)) [] := by
    simp [evE, evEs, hc0]
  unfold B3
  rw [wp_cons, evS, RS.wp_of, h1, R.wp_ok]
  simp only [assign, RS.wp_ok]
  rw [wp_cons, evS, RS.wp_of, evE, R.wp_ok]
  simp only [assign, RS.wp_ok]
  have h3 : evE P (run P 10) (E.bin Bop.mod (E.loc 1) (E.int 11)) ((([some (SV.d (.scr ns)), none, none, none, none, none, none, none, none, none, none] : Slots).set 1 (some (SV.d (D.int (cellAt ns 0))))).set 2 (some (SV.d (D.str (let26 ++ fig10))))) [] = .ok (.int z) [] := by
    generalize let26 ++ fig10 = o
    simp [evE, evEs, binD, modD, hz]
  rw [wp_cons, evS, RS.wp_of, h3, R.wp_ok]
  simp only [assign, RS.wp_ok]
  rw [wp_cons, evS, RS.wp_of, evE, R.wp_ok]
  simp only [assign, RS.wp_ok]
  rw [wp_cons]
  refine RS.wp_mono (for_run ns (cellAt ns 0) z [] (by omega)) ?_
  rintro f sl st ⟨rfl, t, x5, x8, ht, hc, rfl⟩
  subst ht
  show (evB P (run P 10) _ _ _).wp _ _
  rw [wp_cons, evS, RS.wp_of, due_run ns _ t x5 x8 st (by omega) hc, R.wp_ok]
  simp only [assign, RS.wp_ok]
  rw [wp_cons]
  refine RS.wp_mono (odd_run ns (cellAt ns 0) t.length t x5 x8 st (by omega) (by omega)) ?_
  rintro f sl st ⟨rfl, t, x9, x10, ht, rfl⟩
  show (evB P (run P 10) _ _ _).wp _ _
  rw [wp_cons]
  refine RS.wp_mono (kind_run ns (cellAt ns 0) _ t x5 x8 x9 x10 st ht) ?_
  rintro f sl st ⟨rfl, d, b, hr, rfl⟩
  show (evB P (run P 10) _ _ _).wp _ _
  cases q : run P 10 0 [.d d] st with
  | bad => rw [q] at hr; exact hr.elim
  | ex e s => rw [q] at hr; exact hr.elim
  | ok r s =>
    rw [q] at hr
    have hr : r = .bl b := hr
    subst hr
    have h7 : evE P (run P 10) (E.call 0 [E.loc 4]) (sl0 ns (cellAt ns 0) (t.length : Int) (some (.d d)) x5 (some (.d (.bl b))) x8 x9 x10) st = .ok (.bl b) s := by
      simp [sl0, evE, evEs, q]
    have h7' : ∀ z, evE P (run P 10) (E.call 0 [E.loc 4]) (sl0 ns (cellAt ns 0) z (some (.d d)) x5 (some (.d (.bl b))) x8 x9 x10) st = .ok (.bl b) s := by
      intro z
      simp [sl0, evE, evEs, q]
    rw [wp_cons, evS, RS.wp_of, h7', R.wp_ok]
    simp only [assign, RS.wp_ok]
    have h9 : ∀ z, evE P (run P 10) ((E.isty 1 (E.loc 7)).and (E.cmp Cop.eq (E.loc 7) (E.loc 6))) ((sl0 ns (cellAt ns 0) z (some (.d d)) x5 (some (.d (.bl b))) x8 x9 x10).set 7 (some (.d (.bl b)))) s = .ok (.bl true) s := by
      intro z
      simp [sl0, evE, evEs, istyD, truth, cmpD, eqD, tree, deep, T.eqv]
    rw [wp_cons, evS, RS.wp_of, h9, R.wp_ok, RS.wp_ok]
end Law
end

section
set_option Elab.async false
set_option linter.all false
set_option maxRecDepth 100000
set_option maxHeartbeats 0
open PySem PySem.W PySem.Calls PyProof.Rows
set_option maxRecDepth 100000 in
set_option maxHeartbeats 0 in
theorem PySem.Challenge.cw_roomward_k11_names_known_holds : PySem.Challenge.rw_roomward_k11_names_known.Holds := by
  w_on; o_law
  refine HandSHeadRun.head_any (r := OpenLaw.row PySem.Challenge.rw_roomward_k11_names_known) (q := view (OpenLaw.row PySem.Challenge.rw_roomward_k11_names_known).prog [8]) (H := Law.hk) (ob := Law.ob) (M := 20000) (loose := Law.loose) (d := HandSHeadRun.topDef (OpenLaw.row PySem.Challenge.rw_roomward_k11_names_known).prog 8) (kwd := []) Law.ob_eq
    (by kernel_rfl) (fun s => by kernel_rfl) Law.run_eq (by kernel_rfl) (by kernel_rfl) (by kernel_rfl) (by rfl) (by first | assumption | decide +kernel) (by decide +kernel) ⟨rfl, rfl, rfl, rfl, rfl, by decide +kernel⟩ ?hw ?hc
  case hw => w_witness2
  case hc =>
    exact Pu.law_end (p := Law.pd) (l := PySem.Challenge.rw_roomward_k11_names_known) (m := 63) (n := 10) (L := 3) (f := Law.f3) (x := "_law_script") rfl (by decide) (by kernel_rfl) ⟨rfl, by decide, by decide⟩ Law.wf Law.hB rfl rfl (by decide +kernel) rfl (fun _ _ _ _ _ _ us hl => match us, hl with | [_], _ => rfl) (by decide +kernel) Law.hrun
end
