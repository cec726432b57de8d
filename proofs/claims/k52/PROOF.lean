import PyProof.Rows.All
import Wide.All
import OpenK.AllK
import Wide.FinOn
import HandS.ForMost
import HandS.ForExc
import HandS.Sort
import KE.KeyNested
import KE.SortData
import HandS.TupMul
import HandS.TupLen
import KE.KDictKeyed
import HandS.DictComp
import HandS.SetKeys
import HandS.Dict
import HandS.TupAny
import HandS.Flow
import HandS.Style
import HandS.Deep
import HandS.SetFor
import HandS.Strs
import HandS.TupSets
import HandS.RaiseMore
import HandS.WordsDict
import HandS.SortInts
import HandS.More
import HandS.Rev
import HandS.Iter
import KE.GoesEnum
import KE.GoesMore
import PyProof.DictTable
import HandS.Zip
import KE.SortKeyHeap
import KE.KSortKey
import HandS.TryOnly
import HandS.ExcInit
import HandS.ExcField
import HandS.FStr
import HandS.Codes
import HandS.HeadWalk
import HandS.IsInst
import KE.KIsAll
import HandS.Head2
import HandS.HeadHook2
import HandS.HeadEnd
import HandS.Defaults
import PySem.Challenge.RW_askanew_k52_least_enough_cells
set_option Elab.async false
set_option linter.all false
set_option maxRecDepth 100000
/-! RxA: a small pure language (values D, heap of changeable things, expressions, statements) and its evaluator. -/
namespace Rx
open PySem (Str PyData NestedKey sizeLine)

inductive D where
  | non | bl (b : Bool) | int (i : Int) | str (x : Str)
  | tup (xs : List D) | lst (xs : List D) | dct (ks vs : List D)
  | ref (i : Nat) | clo (n : Nat) (ws : List D) | slst (xs : List D) | hole
deriving Inhabited

inductive Ob where
  | lst (xs : List D) | dct (ks vs : List D) | ins (c : Str) (fs : List (Str × D))
deriving Inhabited

/-! ### equality of the shape -/
mutual
def D.same : D → D → Bool
  | .non, .non => true
  | .bl a, .bl b => a == b
  | .int a, .int b => decide (a = b)
  | .str a, .str b => decide (a = b)
  | .tup a, .tup b => sames a b
  | .lst a, .lst b => sames a b
  | .dct a b, .dct c d => sames a c && sames b d
  | .ref a, .ref b => decide (a = b)
  | .clo a x, .clo b y => decide (a = b) && sames x y
  | .slst a, .slst b => sames a b
  | .hole, .hole => true
  | _, _ => false
def sames : List D → List D → Bool
  | [], [] => true
  | a :: as, b :: bs => D.same a b && sames as bs
  | _, _ => false
end
mutual
theorem D.same_eq : ∀ a b : D, D.same a b = true → a = b
  | .non, b, h => by cases b <;> simp [D.same] at h <;> rfl
  | .bl a, b, h => by cases b <;> simp [D.same] at h <;> simp [h]
  | .int a, b, h => by cases b <;> simp [D.same] at h <;> simp [h]
  | .str a, b, h => by cases b <;> simp [D.same] at h <;> simp [h]
  | .tup a, b, h => by
    cases b <;> simp [D.same] at h
    rw [sames_eq _ _ h]
  | .lst a, b, h => by
    cases b <;> simp [D.same] at h
    rw [sames_eq _ _ h]
  | .dct a a', b, h => by
    cases b <;> simp [D.same] at h
    rw [sames_eq _ _ h.1, sames_eq _ _ h.2]
  | .ref a, b, h => by cases b <;> simp [D.same] at h <;> simp [h]
  | .clo a a', b, h => by
    cases b <;> simp [D.same] at h
    rw [h.1, sames_eq _ _ h.2]
  | .slst a, b, h => by
    cases b <;> simp [D.same] at h
    rw [sames_eq _ _ h]
  | .hole, b, h => by cases b <;> simp [D.same] at h <;> rfl
theorem sames_eq : ∀ a b : List D, sames a b = true → a = b
  | [], b, h => by cases b <;> simp [sames] at h <;> rfl
  | a :: as, b, h => by
    cases b <;> simp [sames] at h
    rw [D.same_eq _ _ h.1, sames_eq _ _ h.2]
end
mutual
theorem D.same_self : ∀ a : D, D.same a a = true
  | .non => by simp [D.same]
  | .bl a => by simp [D.same]
  | .int a => by simp [D.same]
  | .str a => by simp [D.same]
  | .tup a => by simp [D.same, sames_self a]
  | .lst a => by simp [D.same, sames_self a]
  | .dct a b => by simp [D.same, sames_self a, sames_self b]
  | .ref a => by simp [D.same]
  | .clo a b => by simp [D.same, sames_self b]
  | .slst a => by simp [D.same, sames_self a]
  | .hole => by simp [D.same]
theorem sames_self : ∀ a : List D, sames a a = true
  | [] => by simp [sames]
  | a :: as => by simp [sames, D.same_self a, sames_self as]
end
def Ob.same : Ob → Ob → Bool
  | .lst a, .lst b => sames a b
  | .dct a b, .dct c d => sames a c && sames b d
  | _, _ => false
theorem Ob.same_eq (a b : Ob) (h : Ob.same a b = true) : a = b := by
  cases a <;> cases b <;> simp [Ob.same] at h
  · rw [sames_eq _ _ h]
  · rw [sames_eq _ _ h.1, sames_eq _ _ h.2]

/-! ### as plain data, as keys -/
mutual
def toP : D → PyData
  | .non => .none
  | .bl b => .bool b
  | .int i => .int i
  | .str x => .str x
  | .tup xs => .tuple (toPs xs)
  | .lst xs => .list (toPs xs)
  | .dct _ _ => .none
  | .ref _ => .none
  | .clo _ _ => .none
  | .slst xs => .list (toPs xs)
  | .hole => .none
def toPs : List D → List PyData
  | [] => []
  | x :: xs => toP x :: toPs xs
end
mutual
def toK : D → NestedKey
  | .non => .none
  | .bl b => .num (if b then 1 else 0)
  | .int i => .num i
  | .str x => .text x
  | .tup xs => .tup (toKs xs)
  | .lst _ => .none
  | .dct _ _ => .none
  | .ref _ => .none
  | .clo _ _ => .none
  | .slst _ => .none
  | .hole => .none
def toKs : List D → List NestedKey
  | [] => []
  | x :: xs => toK x :: toKs xs
end
/-- plain data of a depth of at most n: no dict, nothing that changes -/
def plain : Nat → D → Bool
  | _, .non => true
  | _, .bl _ => true
  | _, .int _ => true
  | _, .str x => PySem.PyData.strOk x
  | 0, _ => false
  | n + 1, .tup xs => xs.all (plain n)
  | n + 1, .lst xs => xs.all (plain n)
  | n + 1, .slst xs => xs.all (plain n)
  | _, _ => false
/-- a key of a depth of at most n -/
def keyOk : Nat → D → Bool
  | _, .non => true
  | _, .bl _ => true
  | _, .int _ => true
  | _, .str _ => true
  | 0, _ => false
  | n + 1, .tup xs => xs.all (keyOk n)
  | _, _ => false
def isTup : D → Bool
  | .tup _ => true
  | _ => false
mutual
/-- nothing that changes, no closure -/
def fz : D → Bool
  | .non => true
  | .bl _ => true
  | .int _ => true
  | .str _ => true
  | .tup xs => fzs xs
  | .lst xs => fzs xs
  | .dct ks vs => fzs ks && fzs vs
  | .ref _ => false
  | .clo _ ws => fzs ws
  | .slst xs => fzs xs
  | .hole => false
def fzs : List D → Bool
  | [] => true
  | x :: xs => fz x && fzs xs
end
mutual
/-- no list, no dict within -/
def nol : D → Bool
  | .tup xs => nols xs
  | .lst _ => false
  | .dct _ _ => false
  | .ref _ => false
  | .clo _ _ => false
  | .slst _ => false
  | .hole => false
  | _ => true
def nols : List D → Bool
  | [] => true
  | x :: xs => nol x && nols xs
end

abbrev Hq := List Ob
abbrev Ev := List (Option D)

/-- an exception of the program's own: class, fields -/
structure Xc where
  cn : Str
  fs : List D

inductive R (α : Type) where
  | ok (a : α) (h : Hq) | xc (x : Xc) (h : Hq) | er

def R.bind {α β : Type} : R α → (α → Hq → R β) → R β
  | .ok a h, k => k a h
  | .xc x h, _ => .xc x h
  | .er, _ => .er
@[simp] theorem R.bind_ok {α β : Type} (a : α) (h : Hq) (k : α → Hq → R β) : (R.ok a h).bind k = k a h := rfl
@[simp] theorem R.bind_xc {α β : Type} (x : Xc) (h : Hq) (k : α → Hq → R β) : (R.xc x h).bind k = .xc x h := rfl
@[simp] theorem R.bind_er {α β : Type} (k : α → Hq → R β) : (R.er).bind k = .er := rfl
def R.of {α : Type} (o : Option α) (h : Hq) : R α := match o with
  | some a => .ok a h
  | none => .er
@[simp] theorem R.of_some {α : Type} (a : α) (h : Hq) : R.of (some a) h = .ok a h := rfl
@[simp] theorem R.of_none {α : Type} (h : Hq) : R.of (none : Option α) h = .er := rfl

/-! ### freezing -/
/-- d with what stands at a place of n or more put in (to a depth) -/
def frz (n : Nat) (h : Hq) : Nat → D → Option D
  | _, .non => some .non
  | _, .bl b => some (.bl b)
  | _, .int i => some (.int i)
  | _, .str x => some (.str x)
  | 0, _ => none
  | k + 1, .tup xs => (xs.mapM (frz n h k)).map .tup
  | k + 1, .lst xs => (xs.mapM (frz n h k)).map .lst
  | k + 1, .dct ks vs => match ks.mapM (frz n h k), vs.mapM (frz n h k) with
    | some a, some b => some (.dct a b)
    | _, _ => none
  | k + 1, .ref i => if i < n then some (.ref i) else match h[i]? with
    | some (.lst xs) => (xs.mapM (frz n h k)).map .lst
    | some (.dct ks vs) => match ks.mapM (frz n h k), vs.mapM (frz n h k) with
      | some a, some b => some (.dct a b)
      | _, _ => none
    | _ => none
  | k + 1, .clo i ws => (ws.mapM (frz n h k)).map (.clo i)
  | k + 1, .slst xs => (xs.mapM (frz n h k)).map .slst
  | _, .hole => none
mutual
/-- all places named are below n -/
def below (n : Nat) : D → Bool
  | .tup xs => belows n xs
  | .lst xs => belows n xs
  | .dct ks vs => belows n ks && belows n vs
  | .ref i => decide (i < n)
  | .clo _ ws => belows n ws
  | .slst xs => belows n xs
  | _ => true
def belows (n : Nat) : List D → Bool
  | [] => true
  | x :: xs => below n x && belows n xs
end
def obBelow (n : Nat) : Ob → Bool
  | .lst xs => belows n xs
  | .dct ks vs => belows n ks && belows n vs
  | .ins _ fs => belows n (fs.map (·.2))

/-! ### operations on values -/
inductive Op2 where
  | add | sub | mul | fdiv | mod | pow
deriving DecidableEq
inductive Cmp where
  | eq | ne | lt | le | gt | ge | is_ | isnot | in_ | notin
deriving DecidableEq
inductive B1 where
  | len | tuple | list | listM | sorted | sset | slen | min | max | sum | all | any | abs | int | str | repr | rngl | dict | lenset | vals | maxv
deriving DecidableEq
inductive B2 where
  | min | max
deriving DecidableEq
inductive Bm where
  | append | extend | pop | popAt | get | get3 | setdefault | update | index | join | split | insert | remove | popd
deriving DecidableEq

def fits (n : Nat) : Bool := decide (n ≤ sizeLine)
/-- a list, or what stands at a place -/
def view (h : Hq) : D → D
  | .ref i => match h[i]? with
    | some (.lst xs) => .lst xs
    | some (.dct ks vs) => .dct ks vs
    | _ => .ref i
  | .slst xs => .lst xs
  | d => d
/-- .. but not the script -/
def viewM (h : Hq) : D → D
  | .slst xs => .slst xs
  | d => view h d
def seqOf (h : Hq) (d : D) : Option (List D) := match view h d with
  | .tup xs => some xs
  | .lst xs => some xs
  | _ => none
def isInt : D → Option Int
  | .int i => some i
  | _ => none
def natIx (n : Nat) (i : Int) : Option Nat :=
  if 0 ≤ i then (if i.toNat < n then some i.toNat else none) else (if (-i).toNat ≤ n then some (n - (-i).toNat) else none)
/-- the value at a key -/
def dgetK : List D → List D → D → Option D
  | k :: ks, v :: vs, q => if toK k = toK q then some v else dgetK ks vs q
  | _, _, _ => none
def dput (ks vs : List D) (k v : D) : List D × List D :=
  if ks.any (fun q => decide (toK q = toK k)) then (ks, List.zipWith (fun q w => if toK q = toK k then v else w) ks vs) else (ks ++ [k], vs ++ [v])
/-- an int or a text -/
def flk : D → Bool
  | .int _ => true
  | .str _ => true
  | _ => false
/-- which keys a dict with the keys ks may be given -/
def keyFit (ks : List D) (k : D) : Bool := (flk k && ks.all flk) || (isTup k && keyOk 8 k && ks.all isTup)
def ixD (h : Hq) (a i : D) : Option D := match view h a with
  | .tup xs => (isInt i).bind fun i => (natIx xs.length i).bind fun n => xs[n]?
  | .lst xs => (isInt i).bind fun i => (natIx xs.length i).bind fun n => xs[n]?
  | .str x => if fits x.length then (isInt i).bind fun i => (natIx x.cps.toList.length i).bind fun n => (x.cps.toList[n]?).map fun c => .str ⟨#[c]⟩ else none
  | .dct ks vs => if keyFit ks i then dgetK ks vs i else none
  | _ => none
def clip (n : Nat) (dflt : Nat) : D → Option Nat
  | .hole => some dflt
  | .int i => if 0 ≤ i then some (min i.toNat n) else some (n - (-i).toNat)
  | _ => none
def partB : D → Bool
  | .hole => true
  | .int _ => true
  | _ => false
def slcD (h : Hq) (a lo hi : D) : Option D := match view h a with
  | .tup xs => (clip xs.length 0 lo).bind fun l => (clip xs.length xs.length hi).map fun u => .tup ((xs.take u).drop l)
  | .lst xs => (clip xs.length 0 lo).bind fun l => (clip xs.length xs.length hi).map fun u => .lst ((xs.take u).drop l)
  | _ => none
def revD (h : Hq) (a : D) : Option D := match view h a with
  | .lst xs => some (.lst xs.reverse)
  | _ => none
def big (i : Int) : Bool := decide (-(2 ^ 64) < i) && decide (i < 2 ^ 64)
def binD (h : Hq) : Op2 → D → D → Option D
  | .add, .int a, .int b => some (.int (a + b))
  | .sub, .int a, .int b => some (.int (a - b))
  | .mul, .int a, .int b => if big a || big b then some (.int (a * b)) else none
  | .fdiv, .int a, .int b => if 0 < b ∧ b < 1073741824 then some (.int (a / b)) else none
  | .mod, .int a, .int b => if 0 < b then some (.int (a % b)) else none
  | .pow, .int a, .int b => if 0 ≤ b ∧ b ≤ 1000000 ∧ a.natAbs < 2 ^ 64 then some (.int (a ^ b.toNat)) else none
  | .add, .str a, .str b => if fits (a.length + b.length) then some (.str (a ++ b)) else none
  | .mul, .tup a, .int b => if a ≠ [] ∧ 0 ≤ b ∧ b ≤ 1000 ∧ a.length ≤ 1000 then some (.tup (List.replicate b.toNat a).flatten) else none
  | .add, a, b => match viewM h a, viewM h b with
    | .tup x, .tup y => if fits (x.length + y.length) then some (.tup (x ++ y)) else none
    | .lst x, .lst y => if fits (x.length + y.length) then some (.lst (x ++ y)) else none
    | _, _ => none
  | _, _, _ => none
def eqv (a b : D) : Bool := PyData.eqv (toP a) (toP b)
def scal : D → Bool
  | .non => true
  | .bl _ => true
  | .int _ => true
  | .str _ => true
  | _ => false
/-- == -/
def eqD (h : Hq) (a b : D) : Option Bool := match view h a, view h b with
  | .str x, .str y => some (decide (x = y))
  | x, y => if plain 60 x && plain 60 y then some (eqv x y) else none
def inD (h : Hq) (a b : D) : Option Bool := match view h b with
  | .str y => match a with
    | .str x => some (!(PySem.Builtin.Str.occurrences y x 0 y.length 1).isEmpty)
    | _ => none
  | .tup xs => if plain 60 (view h a) && xs.all (plain 60) then some (xs.any fun x => eqv x (view h a)) else none
  | .lst xs => if plain 60 (view h a) && xs.all (plain 60) then some (xs.any fun x => eqv x (view h a)) else none
  | .dct ks vs => if keyFit ks a then some (dgetK ks vs a).isSome else none
  | _ => none
mutual
/-- a before b, where they can be compared -/
def ltD : D → D → Bool
  | .int a, .int b => decide (a < b)
  | .tup a, .tup b => ltDs a b
  | _, _ => false
def ltDs : List D → List D → Bool
  | [], [] => false
  | [], _ :: _ => true
  | _ :: _, [] => false
  | a :: as, b :: bs => ltD a b || (D.same a b && ltDs as bs)
end
mutual
/-- of one kind: ints, tuples of things of one kind -/
def kin : D → D → Bool
  | .int _, .int _ => true
  | .tup a, .tup b => kins a b
  | _, _ => false
def kins : List D → List D → Bool
  | [], _ => true
  | _ :: _, [] => true
  | a :: as, b :: bs => kin a b && kins as bs
end
def leD (a b : D) : Bool := !(ltD b a)
def sortD (xs : List D) : List D := xs.mergeSort leD
def sortable (xs : List D) : Bool := xs.all fun a => xs.all fun b => kin a b && plain 8 a
/-- each once, the first of its kind kept -/
def onceD : List D → List D
  | [] => []
  | x :: xs => x :: (onceD xs).filter fun y => !(D.same x y)
def cmpD (h : Hq) : Cmp → D → D → Option Bool
  | .eq, a, b => eqD h a b
  | .ne, a, b => (eqD h a b).map (!·)
  | .lt, .int a, .int b => some (decide (a < b))
  | .le, .int a, .int b => some (decide (a ≤ b))
  | .gt, .int a, .int b => some (decide (b < a))
  | .ge, .int a, .int b => some (decide (b ≤ a))
  | .is_, a, .non => some (match a with | .non => true | _ => false)
  | .isnot, a, .non => some (match a with | .non => false | _ => true)
  | .is_, .bl a, .bl b => some (a == b)
  | .isnot, .bl a, .bl b => some (!(a == b))
  | .in_, a, b => inD h a b
  | .notin, a, b => (inD h a b).map (!·)
  | _, _, _ => none
def tru (h : Hq) (d : D) : Option Bool := match view h d with
  | .non => some false
  | .bl b => some b
  | .int i => some (decide (i ≠ 0))
  | .str x => if fits x.length then some (decide (x.length ≠ 0)) else none
  | .tup xs => some (!xs.isEmpty)
  | .lst xs => some (!xs.isEmpty)
  | _ => none
/-- a bound of the length of the text -/
def cost : Nat → D → Nat
  | _, .non => 4
  | _, .bl _ => 5
  | _, .int i => if i.natAbs < 2 ^ 1900 then 600 else sizeLine + 1
  | _, .str x => 12 * x.length + 2
  | 0, _ => sizeLine + 1
  | n + 1, .tup xs => (xs.map fun x => cost n x + 2).sum + 3
  | n + 1, .lst xs => (xs.map fun x => cost n x + 2).sum + 3
  | n + 1, .slst xs => (xs.map fun x => cost n x + 2).sum + 3
  | _, _ => sizeLine + 1
def shown (d : D) : Str := (toP d).shown
mutual
/-- no int of more than twelve figures within -/
def sml : D → Bool
  | .int i => decide (i.natAbs ≤ 999999999999)
  | .tup xs => smls xs
  | .lst xs => smls xs
  | .slst xs => smls xs
  | _ => true
def smls : List D → Bool
  | [] => true
  | x :: xs => sml x && smls xs
end
/-- its text is of a size that is allowed -/
def shw (d : D) : Bool := plain 60 d && sml d && decide ((toP d).weight ≤ 1048576)
def lenD (h : Hq) (d : D) : Option Nat := match view h d with
  | .tup xs => some xs.length
  | .lst xs => some xs.length
  | .str x => if fits x.length then some x.length else none
  | .dct ks _ => some ks.length
  | _ => none
def least (lt : D → D → Bool) : D → List D → D
  | m, [] => m
  | m, x :: xs => least lt (if lt x m then x else m) xs
def allB : List D → Option (List Bool)
  | [] => some []
  | .bl b :: xs => (allB xs).map (b :: ·)
  | _ :: _ => none
def allI : List D → Option (List Int)
  | [] => some []
  | .int b :: xs => (allI xs).map (b :: ·)
  | _ :: _ => none
/-- an insertion -/
def ins (le : α → α → Bool) (x : α) : List α → List α
  | [] => [x]
  | y :: ys => if le x y then x :: y :: ys else y :: ins le x ys
def srt (le : α → α → Bool) (l : List α) : List α := l.foldr (ins le) []
def srtI (l : List Int) : List Int := srt (fun a b => decide (a ≤ b)) l
def tB : Int := 1048576
def srtT (l : List (List Int)) : List (List Int) := srt (fun a b => decide (TS.code tB a ≤ TS.code tB b)) l
def allT : List D → Option (List (List Int))
  | [] => some []
  | .tup xs :: ds => (match allI xs, allT ds with
    | some ns, some nss => some (ns :: nss)
    | _, _ => none)
  | _ :: _ => none
/-- each once -/
def once {α : Type} [DecidableEq α] : List α → List α
  | [] => []
  | x :: xs => if decide (x ∈ xs) then once xs else x :: once xs
/-- few tuples of one length, of small ints -/
def tupFit (nss : List (List Int)) : Bool := match nss with
  | [] => false
  | ns :: _ => decide (0 < ns.length) && decide (nss.length < 64) && nss.all fun ms => decide (ms.length = ns.length) && ms.all fun m => decide (0 ≤ m) && decide (m < tB)
/-- tuples with an item each -/
def tupsB (xs : List D) : Bool := xs.all fun d => match d with
  | .tup (_ :: _) => true
  | _ => false
/-- what can be sorted: alike; tuples with an item each, or one alone -/
def gsOk (xs : List D) : Bool := xs.all (plain 50) && (xs.all fun a => xs.all fun b => PySem.W.alike (toP a) (toP b)) && (tupsB xs || (decide (xs.length ≤ 1) && xs.all fun d => match d with
  | .tup _ => true
  | _ => false)) && decide (xs.length ≤ 100000)
def gsort (xs : List D) : List D := xs.mergeSort (PySem.W.dataLe false toP)
def klen (d : D) : PyData := .int (match d with
  | .tup xs => (xs.length : Nat)
  | _ => 0)
def slOk (xs : List D) : Bool := xs.all isTup && decide (xs.length ≤ 100000)
def slsort (xs : List D) : List D := xs.mergeSort (PySem.W.dataLe false klen)
def b1D (h : Hq) (o : B1) (d : D) : R D := match o with
  | .len => R.of ((lenD h d).map fun n : Nat => D.int (n : Int)) h
  | .tuple => R.of ((seqOf h d).map .tup) h
  | .list => match view h d with
    | .tup xs => .ok (.lst xs) h
    | .lst xs => .ok (.lst xs) h
    | .dct ks _ => .ok (.lst ks) h
    | _ => .er
  | .listM => match view h d with
    | .tup xs => .ok (.ref h.length) (h ++ [.lst xs])
    | .lst xs => .ok (.ref h.length) (h ++ [.lst xs])
    | .dct ks _ => .ok (.ref h.length) (h ++ [.lst ks])
    | _ => .er
  | .sorted => match view h d with
    | .lst xs => (match allI xs with
      | some ns => .ok (.lst ((srtI ns).map .int)) h
      | none => (match allT xs with
        | some nss => if tupFit nss then .ok (.lst ((srtT nss).map fun ns => .tup (ns.map .int))) h else if gsOk xs then .ok (.lst (gsort xs)) h else .er
        | none => if gsOk xs then .ok (.lst (gsort xs)) h else .er))
    | _ => .er
  | .sset => match view h d with
    | .lst xs => (match allI xs with
      | some ns => if ns.length < 64 then .ok (.lst ((srtI (once ns)).map .int)) h else .er
      | none => (match allT xs with
        | some nss => if tupFit nss then .ok (.lst ((srtT (once nss)).map fun ns => .tup (ns.map .int))) h else .er
        | none => .er))
    | .tup xs => (match allT xs with
      | some nss => if tupFit nss then .ok (.lst ((srtT (once nss)).map fun ns => .tup (ns.map .int))) h else .er
      | none => .er)
    | _ => .er
  | .lenset => match view h d with
    | .lst xs => if sortable xs then .ok (.int (onceD xs).length) h else .er
    | _ => .er
  | .slen => match view h d with
    | .lst xs => if slOk xs then .ok (.lst (slsort xs)) h else .er
    | _ => .er
  | .min => match view h d with
    | .lst xs => (match allI xs with
      | some (n :: ns) => .ok (.int (ns.foldl min n)) h
      | _ => .er)
    | _ => .er
  | .max => match view h d with
    | .lst xs => (match allI xs with
      | some (n :: ns) => .ok (.int (ns.foldl max n)) h
      | _ => .er)
    | _ => .er
  | .maxv => match view h d with
    | .dct _ (x :: xs) => if sortable (x :: xs) then .ok (least (fun a b => ltD b a) x xs) h else .er
    | _ => .er
  | .sum => match view h d with
    | .lst xs => R.of ((allI xs).map fun bs => .int bs.sum) h
    | .tup xs => R.of ((allI xs).map fun bs => .int bs.sum) h
    | _ => .er
  | .all => match view h d with
    | .lst xs => R.of ((allB xs).map fun bs => .bl (bs.all id)) h
    | _ => .er
  | .any => match view h d with
    | .lst xs => R.of ((allB xs).map fun bs => .bl (bs.any id)) h
    | _ => .er
  | .abs => match d with
    | .int i => .ok (.int (if i < 0 then -i else i)) h
    | _ => .er
  | .int => match d with
    | .int i => .ok (.int i) h
    | .bl b => .ok (.int (if b then 1 else 0)) h
    | _ => .er
  | .str => match d with
    | .int i => if i.natAbs.log2 < 1920 then .ok (.str (toString i)) h else .er
    | .str x => .ok (.str x) h
    | _ => .er
  | .repr => if shw (view h d) then .ok (.str (shown (view h d))) h else .er
  | _ => .er
def b2D (o : B2) (a b : D) : Option D := match o, a, b with
  | .min, .int x, .int y => some (.int (if y < x then y else x))
  | .max, .int x, .int y => some (.int (if y > x then y else x))
  | _, _, _ => none

/-! ### the language -/
inductive Md where
  | pu | sc | ef
deriving DecidableEq
mutual
inductive E where
  | var (i : Nat) | c (d : D) | tup (es : Es) | lstF (es : Es) | lstM (es : Es) | dctM | dct1 (k v : E)
  | ix (a i : E) | slc (a lo hi : E) | rev (a : E)
  | bin (o : Op2) (a b : E) | neg (a : E) | not (a : E)
  | cmp (o : Cmp) (a b : E) | isE (neg : Bool) (a : E) | rcmp (neg : Bool) (a b : E) | chn (o p : Cmp) (a b c : E)
  | and_ (a b : E) | or_ (a b : E) | ite (c a b : E)
  | b1 (o : B1) (a : E) | b2 (o : B2) (a b : E)
  | isi (ts : List Str) (a : E)
  | lc (it : It) (t : T) (cond x : E)
  | dc (it : It) (t : T) (cond k v : E)
  | call (m : Md) (f : Str) (es : Es)
  | mk (cn : Str) (es : Es)
  | mcall (m : Str) (o : E) (es : Es)
  | fld (o : E) (f : Str)
  | bm (m : Bm) (o : E) (es : Es)
  | bad
inductive Es where
  | nil | cons (e : E) (es : Es)
inductive It where
  | sq (e : E) | rng (es : Es) | enum (e : E) | zip (a b : E) | enumz (a b : E) | keys (e : E) | vals (e : E) | items (e : E) | rv (e : E)
inductive T where
  | nm (i : Nat) | tp (ts : Ts) | sub (o i : E) | fld (o : E) (f : Str)
inductive Ts where
  | nil | cons (t : T) (ts : Ts)
end
mutual
inductive S where
  | asg (t : T) (e : E) | par (ns : List Nat) (es : Es) | aug (t : T) (o : Op2) (e : E)
  | ex (e : E) | ret (e : E) | ite (c : E) (a b : Ss) | whl (c : E) (b : Ss) | for_ (it : It) (t : T) (b : Ss)
  | brk | cnt | pas | rais (cn : Str) (es : Es) | try_ (b : Ss) (cn : Str) (oth : List Str) (nm : Option Nat) (hb : Ss) | bad
inductive Ss where
  | nil | cons (s : S) (ss : Ss)
end

mutual
def T.slots : T → List Nat
  | .nm i => [i]
  | .tp ts => ts.slots
  | .sub _ _ => []
  | .fld _ _ => []
def Ts.slots : Ts → List Nat
  | .nil => []
  | .cons t ts => t.slots ++ ts.slots
end
def wipeE (ρ : Ev) : List Nat → Ev
  | [] => ρ
  | v :: vs => (wipeE ρ vs).set v none
/-- nothing was changed at the source -/
abbrev Src := Option (Nat × Ob)
def unch (s : Src) (h : Hq) : Bool := match s with
  | none => true
  | some (i, o) => match h[i]? with
    | some q => Ob.same q o
    | none => false
def srcOf (h : Hq) : D → Src
  | .ref i => match h[i]? with
    | some (.lst xs) => some (i, .lst xs)
    | some (.dct ks vs) => some (i, .dct ks vs)
    | _ => none
  | _ => none
/-- what a comprehension makes -/
def lcL (s : Src) (asg : D → Hq → R Ev) (cond : Ev → Hq → R Bool) (x : Ev → Hq → R D) : List D → Hq → R (List D)
  | [], h => if unch s h then .ok [] h else .er
  | d :: ds, h => if unch s h then
      (asg d h).bind fun ρ h1 => (cond ρ h1).bind fun b h2 =>
        if b then (x ρ h2).bind fun v h3 => (lcL s asg cond x ds h3).bind fun vs h4 => .ok (v :: vs) h4
        else lcL s asg cond x ds h2
    else .er
def dcL (s : Src) (asg : D → Hq → R Ev) (cond : Ev → Hq → R Bool) (k v : Ev → Hq → R D) : List D → List D → List D → Hq → R (List D × List D)
  | [], ks, vs, h => if unch s h then .ok (ks, vs) h else .er
  | d :: ds, ks, vs, h => if unch s h then
      (asg d h).bind fun ρ h1 => (cond ρ h1).bind fun b h2 =>
        if b then (k ρ h2).bind fun kd h3 => (v ρ h3).bind fun vd h4 =>
          if keyFit ks kd then dcL s asg cond k v ds (dput ks vs kd vd).1 (dput ks vs kd vd).2 h4 else .er
        else dcL s asg cond k v ds ks vs h2
    else .er
/-- out of a block no exception goes -/
def R.nox {α : Type} : R α → R α
  | .ok a h => .ok a h
  | _ => .er
def rngI (lo hi : Int) : List D := (List.range (hi - lo).toNat).map fun n => .int (lo + (n : Nat))
def small62 (i : Int) : Bool := decide (-(2 ^ 62) ≤ i) && decide (i < 2 ^ 62)
def zipD (a b : List D) : List D := List.zipWith (fun x y => D.tup [x, y]) a b
def enumFrom (n : Nat) : List D → List D
  | [] => []
  | x :: xs => .tup [.int n, x] :: enumFrom (n + 1) xs

/-! ### calls -/
abbrev Cl := Str → List D → Hq → R D
def callPu (cl : Cl) (f : Str) (ds : List D) (h : Hq) : R D :=
  match ds.mapM (frz 0 h 60) with
  | none => .er
  | some ds' => match cl f ds' [] with
    | .ok d h' => (match frz 0 h' 60 d with
      | some d' => if fzs ds || nol d' then .ok d' h else .er
      | none => .er)
    | .xc x h' => (match x.fs.mapM (frz 0 h' 60) with
      | some fs => if fzs ds || nols fs then .xc ⟨x.cn, fs⟩ h else .er
      | none => .er)
    | .er => .er
def callSc (cl : Cl) (f : Str) (ds : List D) (h : Hq) : R D :=
  match cl f ds h with
  | .ok d h' => if (h'.take h.length).all (obBelow h.length) then (match frz h.length h' 60 d with
    | some d' => .ok d' (h'.take h.length)
    | none => .er) else .er
  | .xc x h' => if (h'.take h.length).all (obBelow h.length) then (match x.fs.mapM (frz h.length h' 60) with
    | some fs => .xc ⟨x.cn, fs⟩ (h'.take h.length)
    | none => .er) else .er
  | .er => .er
def callD (cl : Cl) : Md → Str → List D → Hq → R D
  | .pu => callPu cl
  | .sc => callSc cl
  | .ef => cl

/-- a list at a place -/
def lstAt (h : Hq) (d : D) : Option (List D) := match d with
  | .ref i => match h[i]? with
    | some (.lst xs) => some xs
    | _ => none
  | _ => none
def setLst (h : Hq) (d i v : D) (xs : List D) : Option Hq := match d, i with
  | .ref p, .int j => (natIx xs.length j).map fun n => h.set p (.lst (xs.set n v))
  | _, _ => none
/-- a dict at a place -/
def dctAt (h : Hq) (d : D) : Option (List D × List D) := match d with
  | .ref i => match h[i]? with
    | some (.dct ks vs) => some (ks, vs)
    | _ => none
  | _ => none
def putDct (h : Hq) (d i v : D) (ks vs : List D) : Option Hq := match d with
  | .ref p => if keyFit ks i && decide (ks.length < sizeLine) then some (h.set p (.dct (dput ks vs i v).1 (dput ks vs i v).2)) else none
  | _ => none
def setOb (h : Hq) (d i v : D) : Option Hq := match lstAt h d with
  | some xs => setLst h d i v xs
  | none => match dctAt h d with
    | some kv => putDct h d i v kv.1 kv.2
    | none => none
def putFd (f : Str) (v : D) : List (Str × D) → List (Str × D)
  | [] => [(f, v)]
  | (g, w) :: r => if g = f then (g, v) :: r else (g, w) :: putFd f v r
def setFd (h : Hq) (d : D) (f : Str) (v : D) : Option Hq := match d with
  | .ref p => match h[p]? with
    | some (.ins c fs) => if fs.length < 100 then some (h.set p (.ins c (putFd f v fs))) else none
    | _ => none
  | _ => none
def getFd (h : Hq) (d : D) (f : Str) : Option D := match d with
  | .ref p => match h[p]? with
    | some (.ins _ fs) => fs.lookup f
    | _ => none
  | .clo _ [v] => some v
  | _ => none
/-- the class of an instance -/
def insOf (h : Hq) (d : D) : Option Str := match d with
  | .ref p => match h[p]? with
    | some (.ins c _) => some c
    | _ => none
  | _ => none
def mName (c m : Str) : Str := c ++ "." ++ m
/-- the built-in types of a value -/
def kinds (h : Hq) (d : D) : Option (List Str) := match view h d with
  | .non => some []
  | .bl _ => some ["bool", "int"]
  | .int _ => some ["int"]
  | .str _ => some ["str"]
  | .tup _ => some ["tuple"]
  | .lst _ => some ["list"]
  | .clo _ _ => some ["ValueError"]
  | _ => none
/-- isinstance -/
def isiD (h : Hq) (ts : List Str) (d : D) : Option Bool := (kinds h d).map fun ks => ts.any fun t => ks.contains t
/-- what may stand in an error's text -/
def msgI : D → Bool
  | .int i => decide (i.natAbs.log2 < 1920)
  | _ => false
def bmD (h : Hq) (m : Bm) (d : D) (as : List D) : R D := match m, d, as with
  | .append, .ref p, [x] => match lstAt h d with
    | some xs => if xs.length < sizeLine then .ok .non (h.set p (.lst (xs ++ [x]))) else .er
    | _ => .er
  | .extend, .ref p, [x] => match lstAt h d, viewM h x with
    | some xs, .lst ys => if fits (xs.length + ys.length) then .ok .non (h.set p (.lst (xs ++ ys))) else .er
    | _, _ => .er
  | .pop, .ref p, [] => match lstAt h d with
    | some xs => (match xs[xs.length - 1]? with
      | some x => .ok x (h.set p (.lst xs.dropLast))
      | none => .er)
    | _ => .er
  | .popAt, .ref p, [.int i] => match lstAt h d with
    | some xs => if small62 i then (match natIx xs.length i with
      | some n => (match xs[n]? with
        | some x => .ok x (h.set p (.lst (xs.eraseIdx n)))
        | none => .er)
      | none => .er) else .er
    | _ => .er
  | .get, d, [k] => match view h d with
    | .dct ks vs => if keyFit ks k then .ok ((dgetK ks vs k).getD .non) h else .er
    | _ => .er
  | .get3, d, [k, x] => match view h d with
    | .dct ks vs => if keyFit ks k then .ok ((dgetK ks vs k).getD x) h else .er
    | _ => .er
  | .setdefault, .ref p, [k, x] => match dctAt h (.ref p) with
    | some kv => if keyFit kv.1 k && decide (kv.1.length < sizeLine) then (match dgetK kv.1 kv.2 k with
      | some v => .ok v h
      | none => .ok x (h.set p (.dct (dput kv.1 kv.2 k x).1 (dput kv.1 kv.2 k x).2))) else .er
    | none => .er
  | _, _, _ => .er

def isDct (h : Hq) (d : D) : Bool := match view h d with
  | .dct _ _ => true
  | _ => false
def bmOk (h : Hq) (m : Bm) (d : D) : Bool := match m with
  | .append => (lstAt h d).isSome
  | .extend => (lstAt h d).isSome
  | .pop => (lstAt h d).isSome
  | .popAt => (lstAt h d).isSome
  | .get => isDct h d
  | .get3 => isDct h d
  | .setdefault => (dctAt h d).isSome
  | _ => false
/-! ### evaluation -/
def tst (r : R D) : R Bool := r.bind fun d h => R.of (tru h d) h
mutual
def evE (cl : Cl) : E → Ev → Hq → R D
  | .var i, ρ, h => match ρ[i]? with
    | some (some d) => .ok d h
    | _ => .er
  | .c d, _, h => .ok d h
  | .tup es, ρ, h => (evEs cl es ρ h).bind fun ds h1 => .ok (.tup ds) h1
  | .lstF es, ρ, h => (evEs cl es ρ h).bind fun ds h1 => .ok (.lst ds) h1
  | .lstM es, ρ, h => (evEs cl es ρ h).bind fun ds h1 => .ok (.ref h1.length) (h1 ++ [.lst ds])
  | .dctM, _, h => .ok (.ref h.length) (h ++ [.dct [] []])
  | .dct1 k v, ρ, h => (evE cl k ρ h).nox.bind fun x h1 => (evE cl v ρ h1).nox.bind fun y h2 => if keyFit [] x then .ok (.ref h2.length) (h2 ++ [.dct [x] [y]]) else .er
  | .ix a i, ρ, h => (evE cl a ρ h).bind fun x h1 => (evE cl i ρ h1).bind fun y h2 => R.of (ixD h2 x y) h2
  | .slc a l u, ρ, h => (evE cl a ρ h).bind fun x h1 => (evE cl l ρ h1).bind fun y h2 => if partB y then (evE cl u ρ h2).bind fun z h3 => R.of (slcD h3 x y z) h3 else .er
  | .rev a, ρ, h => (evE cl a ρ h).bind fun x h1 => R.of (revD h1 x) h1
  | .bin o a b, ρ, h => (evE cl a ρ h).bind fun x h1 => (evE cl b ρ h1).bind fun y h2 => R.of (binD h2 o x y) h2
  | .neg a, ρ, h => (evE cl a ρ h).bind fun x h1 => R.of ((isInt x).map fun i => .int (-i)) h1
  | .not a, ρ, h => (tst (evE cl a ρ h)).bind fun b h1 => .ok (.bl (!b)) h1
  | .cmp o a b, ρ, h => (evE cl a ρ h).bind fun x h1 => (evE cl b ρ h1).bind fun y h2 => R.of ((cmpD h2 o x y).map .bl) h2
  | .isE neg a, ρ, h => (evE cl a ρ h).bind fun x h1 => match view h1 x with
    | .dct ks _ => .ok (.bl (if neg then !ks.isEmpty else ks.isEmpty)) h1
    | _ => .er
  | .rcmp neg a b, ρ, h => (evE cl a ρ h).bind fun x h1 => if shw (view h1 x) then (evE cl b ρ h1).bind fun y h2 => if shw (view h2 y) && D.same (view h1 x) (view h2 y) then .ok (.bl (!neg)) h2 else .er else .er
  | .chn o p a b c, ρ, h => (evE cl a ρ h).bind fun x h1 => (evE cl b ρ h1).bind fun y h2 => (R.of (cmpD h2 o x y) h2).bind fun t h3 =>
      if t then (evE cl c ρ h3).bind fun z h4 => R.of ((cmpD h4 p y z).map .bl) h4 else .ok (.bl false) h3
  | .and_ a b, ρ, h => (evE cl a ρ h).bind fun x h1 => (R.of (tru h1 x) h1).bind fun t h2 => if t then evE cl b ρ h2 else .ok x h2
  | .or_ a b, ρ, h => (evE cl a ρ h).bind fun x h1 => (R.of (tru h1 x) h1).bind fun t h2 => if t then .ok x h2 else evE cl b ρ h2
  | .ite c a b, ρ, h => (tst (evE cl c ρ h)).bind fun t h1 => if t then evE cl a ρ h1 else evE cl b ρ h1
  | .b1 o a, ρ, h => (evE cl a ρ h).bind fun x h1 => b1D h1 o x
  | .b2 o a b, ρ, h => (evE cl a ρ h).bind fun x h1 => (evE cl b ρ h1).bind fun y h2 => R.of (b2D o x y) h2
  | .isi ts a, ρ, h => (evE cl a ρ h).bind fun x h1 => R.of ((isiD h1 ts x).map .bl) h1
  | .bad, _, _ => .er
  | .lc it t cond x, ρ, h => (evIt cl it ρ h).bind fun sx h1 => if fits sx.2.length then
      ((lcL sx.1 (fun d h => evT cl t d (wipeE ρ t.slots) h) (fun ρ h => tst (evE cl cond ρ h)) (fun ρ h => evE cl x ρ h) sx.2 h1).nox).bind fun ds h2 => .ok (.lst ds) h2
      else .er
  | .dc it t cond k v, ρ, h => (evIt cl it ρ h).bind fun sx h1 => if fits sx.2.length then
      ((dcL sx.1 (fun d h => evT cl t d (wipeE ρ t.slots) h) (fun ρ h => tst (evE cl cond ρ h)) (fun ρ h => evE cl k ρ h) (fun ρ h => evE cl v ρ h) sx.2 [] [] h1).nox).bind fun kv h2 => .ok (.dct kv.1 kv.2) h2
      else .er
  | .call m f es, ρ, h => (evEs cl es ρ h).bind fun ds h1 => callD cl m f ds h1
  | .mk cn es, ρ, h => (evEs cl es ρ h).bind fun ds h1 => match cl (mName cn "__init__") (.ref h1.length :: ds) (h1 ++ [.ins cn []]) with
    | .ok _ h2 => .ok (.ref h1.length) h2
    | _ => .er
  | .mcall m o es, ρ, h => (evE cl o ρ h).bind fun x h1 => match insOf h1 x with
    | some cn => (evEs cl es ρ h1).bind fun ds h2 => cl (mName cn m) (x :: ds) h2
    | none => .er
  | .fld o f, ρ, h => (evE cl o ρ h).bind fun x h1 => R.of (getFd h1 x f) h1
  | .bm m o es, ρ, h => (evE cl o ρ h).bind fun x h1 => if bmOk h1 m x then (evEs cl es ρ h1).bind fun ds h2 => bmD h2 m x ds else .er
def evEs (cl : Cl) : Es → Ev → Hq → R (List D)
  | .nil, _, h => .ok [] h
  | .cons e es, ρ, h => (evE cl e ρ h).bind fun x h1 => (evEs cl es ρ h1).bind fun xs h2 => .ok (x :: xs) h2
def evIt (cl : Cl) : It → Ev → Hq → R (Src × List D)
  | .sq e, ρ, h => (evE cl e ρ h).bind fun x h1 => R.of ((seqOf h1 x).map fun xs => (srcOf h1 x, xs)) h1
  | .rng es, ρ, h => (evEs cl es ρ h).bind fun ds h1 => match ds with
    | [.int j] => if small62 j then .ok (none, rngI 0 j) h1 else .er
    | [.int i, .int j] => if small62 i && small62 j then .ok (none, rngI i j) h1 else .er
    | _ => .er
  | .enum e, ρ, h => (evE cl e ρ h).bind fun x h1 => R.of ((seqOf h1 x).map fun xs => (srcOf h1 x, enumFrom 0 xs)) h1
  | .zip a b, ρ, h => (evE cl a ρ h).bind fun x h1 => (evE cl b ρ h1).bind fun y h2 => match x, y with
    | .tup xs, .tup ys => .ok (none, zipD xs ys) h2
    | .lst xs, .lst ys => .ok (none, zipD xs ys) h2
    | _, _ => .er
  | .enumz a b, ρ, h => (evE cl a ρ h).bind fun x h1 => (evE cl b ρ h1).bind fun y h2 => match x, y with
    | .tup xs, .tup ys => if xs.length = ys.length then .ok (none, enumFrom 0 (zipD xs ys)) h2 else .er
    | .lst xs, .lst ys => if xs.length = ys.length then .ok (none, enumFrom 0 (zipD xs ys)) h2 else .er
    | .lst xs, .tup ys => if xs.length = ys.length then .ok (none, enumFrom 0 (zipD xs ys)) h2 else .er
    | .tup xs, .lst ys => if xs.length = ys.length then .ok (none, enumFrom 0 (zipD xs ys)) h2 else .er
    | _, _ => .er
  | .keys e, ρ, h => (evE cl e ρ h).bind fun x h1 => match view h1 x with
    | .dct ks _ => .ok (srcOf h1 x, ks) h1
    | _ => .er
  | .vals e, ρ, h => (evE cl e ρ h).bind fun x h1 => match view h1 x with
    | .dct _ vs => .ok (srcOf h1 x, vs) h1
    | _ => .er
  | .items e, ρ, h => (evE cl e ρ h).bind fun x h1 => match view h1 x with
    | .dct ks vs => .ok (srcOf h1 x, zipD ks vs) h1
    | _ => .er
  | .rv e, ρ, h => (evE cl e ρ h).bind fun x h1 => R.of ((seqOf h1 x).map fun xs => (srcOf h1 x, xs.reverse)) h1
def evT (cl : Cl) : T → D → Ev → Hq → R Ev
  | .nm i, d, ρ, h => .ok (ρ.set i (some d)) h
  | .tp ts, d, ρ, h => match d with
    | .tup xs => evTs cl ts xs ρ h
    | _ => .er
  | .sub o i, d, ρ, h => (evE cl o ρ h).nox.bind fun x h1 => (evE cl i ρ h1).nox.bind fun y h2 => match setOb h2 x y d with
    | some h3 => .ok ρ h3
    | none => .er
  | .fld o f, d, ρ, h => (evE cl o ρ h).nox.bind fun x h1 => match setFd h1 x f d with
    | some h2 => .ok ρ h2
    | none => .er
def evTs (cl : Cl) : Ts → List D → Ev → Hq → R Ev
  | .nil, [], ρ, h => .ok ρ h
  | .cons t ts, d :: ds, ρ, h => (evT cl t d ρ h).bind fun ρ' h1 => evTs cl ts ds ρ' h1
  | _, _, _, _ => .er
end

inductive Out where
  | nx (ρ : Ev) (h : Hq) | rt (d : D) (ρ : Ev) (h : Hq) | bk (ρ : Ev) (h : Hq) | ct (ρ : Ev) (h : Hq) | xc (x : Xc) (ρ : Ev) (h : Hq) | er
def Out.of {α : Type} (r : R α) (ρ : Ev) (k : α → Hq → Out) : Out := match r with
  | .ok a h => k a h
  | .xc x h => .xc x ρ h
  | .er => .er
@[simp] theorem Out.of_ok {α : Type} (a : α) (h : Hq) (ρ : Ev) (k : α → Hq → Out) : Out.of (.ok a h) ρ k = k a h := rfl
@[simp] theorem Out.of_xc {α : Type} (x : Xc) (h : Hq) (ρ : Ev) (k : α → Hq → Out) : Out.of (.xc x h) ρ k = .xc x ρ h := rfl
@[simp] theorem Out.of_er {α : Type} (ρ : Ev) (k : α → Hq → Out) : Out.of (.er : R α) ρ k = .er := rfl
/-- a name is let go -/
def Out.unset (i : Nat) : Out → Out
  | .nx ρ h => .nx (ρ.set i none) h
  | .rt d ρ h => .rt d (ρ.set i none) h
  | .bk ρ h => .bk (ρ.set i none) h
  | .ct ρ h => .ct (ρ.set i none) h
  | .xc _ _ _ => .er
  | .er => .er
/-- a while: c, b; so many turns -/
def whileL (c : Ev → Hq → R Bool) (b : Ev → Hq → Out) : Nat → Ev → Hq → Out
  | 0, _, _ => .er
  | n + 1, ρ, h => Out.of (c ρ h) ρ fun t h1 => if t then (match b ρ h1 with
    | .nx ρ2 h2 => whileL c b n ρ2 h2
    | .ct ρ2 h2 => whileL c b n ρ2 h2
    | .bk ρ2 h2 => .nx ρ2 h2
    | o => o) else .nx ρ h1
def forL (s : Src) (asg : D → Ev → Hq → R Ev) (b : Ev → Hq → Out) : List D → Ev → Hq → Out
  | [], ρ, h => if unch s h then .nx ρ h else .er
  | d :: ds, ρ, h => if unch s h then Out.of (asg d ρ h) ρ fun ρ1 h1 => (match b ρ1 h1 with
    | .nx ρ2 h2 => forL s asg b ds ρ2 h2
    | .ct ρ2 h2 => forL s asg b ds ρ2 h2
    | .bk ρ2 h2 => .nx ρ2 h2
    | o => o) else .er
def setAll (ρ : Ev) : List Nat → List D → Option Ev
  | [], [] => some ρ
  | n :: ns, d :: ds => (setAll ρ ns ds).map fun q => q.set n (some d)
  | _, _ => none
mutual
def evS (cl : Cl) (w : Nat) : S → Ev → Hq → Out
  | .asg t e, ρ, h => Out.of (evE cl e ρ h) ρ fun d h1 => Out.of (evT cl t d ρ h1) ρ fun ρ1 h2 => .nx ρ1 h2
  | .par ns es, ρ, h => Out.of (evEs cl es ρ h) ρ fun ds h1 => match setAll ρ ns ds with
    | some ρ1 => .nx ρ1 h1
    | none => .er
  | .aug t o e, ρ, h => match t, o with
    | .nm i, .add => (match ρ[i]? with
      | some (some (.int x)) => Out.of (evE cl e ρ h) ρ fun y h1 => (match y with
        | .int y => .nx (ρ.set i (some (.int (x + y)))) h1
        | _ => .er)
      | _ => .er)
    | _, _ => .er
  | .ex e, ρ, h => Out.of (evE cl e ρ h) ρ fun _ h1 => .nx ρ h1
  | .ret e, ρ, h => Out.of (evE cl e ρ h) ρ fun d h1 => .rt d ρ h1
  | .ite c a b, ρ, h => Out.of (tst (evE cl c ρ h)) ρ fun t h1 => if t then evSs cl w a ρ h1 else evSs cl w b ρ h1
  | .whl c b, ρ, h => whileL (fun ρ h => tst (evE cl c ρ h)) (fun ρ h => evSs cl w b ρ h) w ρ h
  | .for_ it t b, ρ, h => Out.of (evIt cl it ρ h) ρ fun sx h1 => forL sx.1 (fun d ρ h => evT cl t d ρ h) (fun ρ h => evSs cl w b ρ h) sx.2 ρ h1
  | .brk, ρ, h => .bk ρ h
  | .cnt, ρ, h => .ct ρ h
  | .pas, ρ, h => .nx ρ h
  | .rais cn es, ρ, h => Out.of (evEs cl es ρ h) ρ fun ds h1 => if ds.all msgI then .xc ⟨cn, ds⟩ ρ h1 else .er
  | .try_ b cn oth nm hb, ρ, h => match evSs cl w b ρ h with
    | .xc x ρ1 h1 => if x.cn = cn then (match nm with
        | some i => if i < ρ1.length then Out.unset i (evSs cl w hb (ρ1.set i (some (.clo 0 x.fs))) h1) else .er
        | none => evSs cl w hb ρ1 h1) else if oth.contains x.cn then .xc x ρ1 h1 else .er
    | o => o
  | .bad, _, _ => .er
def evSs (cl : Cl) (w : Nat) : Ss → Ev → Hq → Out
  | .nil, ρ, h => .nx ρ h
  | .cons s ss, ρ, h => match evS cl w s ρ h with
    | .nx ρ1 h1 => evSs cl w ss ρ1 h1
    | o => o
end

/-- a def: its name, how many parameters, how many slots, its body -/
structure Fn where
  name : Str
  np : Nat
  ns : Nat
  body : Ss
def endOf : Out → R D
  | .nx _ h => .ok .non h
  | .rt d _ h => .ok d h
  | .xc x _ h => .xc x h
  | _ => .er
def runFn (cl : Cl) (w : Nat) (f : Fn) (ds : List D) (h : Hq) : R D :=
  if ds.length = f.np then endOf (evSs cl w f.body (ds.map some ++ List.replicate (f.ns - f.np) none) h) else .er
def callN (T : List Fn) (w : Nat) : Nat → Cl
  | 0 => fun _ _ _ => .er
  | k + 1 => fun f ds h => match T.find? fun g => decide (g.name = f) with
    | some g => runFn (callN T w k) w g ds h
    | none => .er
end Rx

/-! RxB: how values and heaps of the pure language lie in the model's abstract heap. -/
namespace Rx
open PySem L2
abbrev MSt := L2.St

/-- what is fixed through a whole law -/
structure Gx where
  P : Program
  w : World
  K : PySem.W.Frag
  mg : Str → Option Value
  base : Heap
  xf : Str → List Str
  rs : List Addr

variable (G : Gx)
def TQ (ι : List Addr) (H : Hp) (a : Addr) (vs : List V) : Prop := a ∉ ι ∧ Rd H a (.tup vs) ∨
  ∃ (o : Obj) (its : Array Value) (n : Nat), G.K.lookup a = some o ∧ o.cls = .type "tuple" ∧ o.data = .seq its n ∧ its.size ≤ sizeLine ∧ Vals vs its.toList
/-- the script: nobody changes it, or it is one of the module's own lists -/
def SQ (ι : List Addr) (H : Hp) (a : Addr) (vs : List V) : Prop := (a ∉ ι ∧ ∃ o, H a = some (.frz o (.lst vs))) ∨
  ∃ (o : Obj) (its : Array Value) (n : Nat), G.K.lookup a = some o ∧ o.cls = .type "list" ∧ o.dict = none ∧ o.data = .seq its n ∧ its.size ≤ sizeLine ∧ Vals vs its.toList
/-- the entries of a dict whose keys are tuples: the key, its tuple's address, the value -/
abbrev KX := List (PySem.NestedKey × Addr × V)
abbrev KXR : KX → List (PySem.NestedKey × Addr × Value) → Prop := Paired fun p q => p.1 = q.1 ∧ p.2.1 = q.2.1 ∧ RelV p.2.2 q.2.2
/-- such a dict at a -/
def nkO (P : Program) (w : World) (a : Addr) (xs : KX) : HO := .ext fun h => (a == sysModules) = false ∧ ∃ ys, KXR xs ys ∧ ∃ o es ep, h.get? a = some o ∧ o.ExactDict ∧ o.data = .dict es ep ∧ es.toList = ys.map (PySem.entryOfKey (PySem.nestedKind P w)) ∧ (ys.map (·.1)).Nodup
/-- a dict's object, of ints and texts or of tuples: the keys' values, the values, the keys -/
inductive DOw (P : Program) (w : World) (a : Addr) : HO → List V → List V → List D → Prop
  | flat (l : List (Key × V)) {ks} : DOw P w a (.dK l) (l.map fun p => kV p.1) (l.map (·.2)) ks
  | nest (xs : KX) {ks} : xs.length ≤ sizeLine → ks ≠ [] → xs.map (·.1) = ks.map toK → ks.all (keyOk 8) = true → ks.all isTup = true →
      DOw P w a (nkO P w a xs) (xs.map fun x => .ref x.2.1) (xs.map (·.2.2)) ks
abbrev DO (G : Gx) (a : Addr) := DOw G.P G.w a
mutual
inductive VR (ι : List Addr) (H : Hp) : V → D → Prop
  | non : VR ι H .non .non
  | bl (b) : VR ι H (.bl b) (.bl b)
  | int (i) : VR ι H (.int i) (.int i)
  | str (x) : VR ι H (.str x) (.str x)
  | tup {a vs ds} : TQ G ι H a vs → VRs ι H vs ds → VR ι H (.ref a) (.tup ds)
  | lst {a vs ds} : a ∉ ι ∧ a ∉ G.rs → H a = some (.lst vs) → VRs ι H vs ds → VR ι H (.ref a) (.lst ds)
  | slst {a vs ds} : SQ G ι H a vs → VRs ι H vs ds → VR ι H (.ref a) (.slst ds)
  | dct {a o kvs vvs ks vs} : a ∉ ι ∧ a ∉ G.rs → H a = some o → DO G a o kvs vvs ks →
      VRs ι H kvs ks → VRs ι H vvs vs → VR ι H (.ref a) (.dct ks vs)
  | ref {a i} : ι[i]? = some a → VR ι H (.ref a) (.ref i)
inductive VRs (ι : List Addr) (H : Hp) : List V → List D → Prop
  | nil : VRs ι H [] []
  | cons {v d vs ds} : VR ι H v d → VRs ι H vs ds → VRs ι H (v :: vs) (d :: ds)
end
/-- a changeable thing -/
inductive OR (ι : List Addr) (H : Hp) (a : Addr) : Ob → Prop
  | lst {vs ds} : H a = some (.lst vs) → VRs G ι H vs ds → OR ι H a (.lst ds)
  | dct {o kvs vvs ks vs} : H a = some o → DO G a o kvs vvs ks →
      VRs G ι H kvs ks → VRs G ι H vvs vs → OR ι H a (.dct ks vs)
  | ins {c C dx fvs fs} : G.mg c = some (.ref C) → H a = some (.ins C dx fvs) → fvs.map (·.1) = fs.map (·.1) → VRs G ι H (fvs.map (·.2)) (fs.map (·.2)) → OR ι H a (.ins c fs)
structure HR (ι : List Addr) (h : Hq) (H : Hp) : Prop where
  len : ι.length = h.length
  nd : ι.Nodup
  at_ : ∀ (i : Nat) (o : Ob) (a : Addr), h[i]? = some o → ι[i]? = some a → OR G ι H a o
  rsv : ∀ a ∈ G.rs, a ∉ ι ∧ ∃ u, H a = some u
structure ER (ι : List Addr) (H : Hp) (ρ : Ev) (σ : MSt) : Prop where
  len : ρ.length = σ.length
  at_ : ∀ (i : Nat) (d : D), ρ[i]? = some (some d) → ∃ v, σ[i]? = some (some v) ∧ VR G ι H v d
/-- later: the changeable things of ι may have changed, others were added -/
structure Ext (ι : List Addr) (H : Hp) (ι' : List Addr) (H' : Hp) : Prop where
  pre : ∃ t, ι' = ι ++ t
  new : ∀ a ∈ ι', a ∈ ι ∨ H a = none
  keep : ∀ a o, H a = some o → a ∉ ι → H' a = some o
inductive XR (ι : List Addr) (H : Hp) : Xc → Value → Option Addr → Prop
  | bare {c C} : G.mg c = some (.ref C) → G.xf c = [] → XR ι H ⟨c, []⟩ (.ref C) none
  | flds {c C d fvs ds} : G.mg c = some (.ref C) → H d = some (.xd fvs) → d ∉ ι → fvs.map (·.1) = G.xf c → VRs G ι H (fvs.map (·.2)) ds → XR ι H ⟨c, ds⟩ (.ref C) (some d)

variable {G : Gx} {ι ι' ι'' : List Addr} {H H' H'' : Hp} {h h' : Hq} {ρ : Ev} {σ : MSt} {v : V} {d : D} {vs : List V} {ds : List D} {a : Addr} {o : Ob}

theorem Ext.refl : Ext ι H ι H := ⟨⟨[], by simp⟩, fun _ h => .inl h, fun _ _ h _ => h⟩
theorem Ext.out (e : Ext ι H ι' H') {a : Addr} {o : HO} (h1 : H a = some o) (h2 : a ∉ ι) : a ∉ ι' := fun h => by
  rcases e.new a h with h | h
  · exact h2 h
  · rw [h1] at h; cases h
theorem Ext.ix (e : Ext ι H ι' H') {i : Nat} {a : Addr} (h : ι[i]? = some a) : ι'[i]? = some a := by
  obtain ⟨t, rfl⟩ := e.pre
  rw [List.getElem?_append_left (List.getElem?_eq_some_iff.mp h).1]; exact h
theorem Rd.ext (e : Ext ι H ι' H') {u : HO} (r : Rd H a u) (n : a ∉ ι) : Rd H' a u ∧ a ∉ ι' := by
  rcases r with r | ⟨o, r⟩
  · exact ⟨.inl (e.keep _ _ r n), e.out r n⟩
  · exact ⟨.inr ⟨o, e.keep _ _ r n⟩, e.out r n⟩
theorem TQ.ext (e : Ext ι H ι' H') (q : TQ G ι H a vs) : TQ G ι' H' a vs := by
  rcases q with ⟨n, r⟩ | q
  · obtain ⟨r', n'⟩ := Rd.ext e r n
    exact .inl ⟨n', r'⟩
  · exact .inr q
theorem SQ.ext (e : Ext ι H ι' H') (q : SQ G ι H a vs) : SQ G ι' H' a vs := by
  rcases q with ⟨n, o, r⟩ | q
  · exact .inl ⟨e.out r n, o, e.keep _ _ r n⟩
  · exact .inr q
theorem SQ.sq (q : SQ G ι H a vs) : SqL G.K H a vs := q.elim (fun x => .inl (.inr x.2)) .inr
theorem TQ.sq (q : TQ G ι H a vs) : SqT G.K H a vs := q.elim (fun x => .inl x.2) .inr
mutual
theorem VR.ext (e : Ext ι H ι' H') : ∀ {v : V} {d : D}, VR G ι H v d → VR G ι' H' v d
  | _, _, .non => .non
  | _, _, .bl b => .bl b
  | _, _, .int i => .int i
  | _, _, .str x => .str x
  | _, _, .tup q r => .tup (q.ext e) (VRs.ext e r)
  | _, _, .lst n q r => .lst ⟨e.out q n.1, n.2⟩ (e.keep _ _ q n.1) (VRs.ext e r)
  | _, _, .slst q r => .slst (q.ext e) (VRs.ext e r)
  | _, _, .dct n q z r1 r2 => .dct ⟨e.out q n.1, n.2⟩ (e.keep _ _ q n.1) z (VRs.ext e r1) (VRs.ext e r2)
  | _, _, .ref q => .ref (e.ix q)
theorem VRs.ext (e : Ext ι H ι' H') : ∀ {vs : List V} {ds : List D}, VRs G ι H vs ds → VRs G ι' H' vs ds
  | _, _, .nil => .nil
  | _, _, .cons r rs => .cons (VR.ext e r) (VRs.ext e rs)
end
theorem ER.ext (e : Ext ι H ι' H') (r : ER G ι H ρ σ) : ER G ι' H' ρ σ := ⟨r.len, fun i d hd => by
  obtain ⟨v, h1, h2⟩ := r.at_ i d hd
  exact ⟨v, h1, h2.ext e⟩⟩
theorem Ext.trans (e : Ext ι H ι' H') (e' : Ext ι' H' ι'' H'') : Ext ι H ι'' H'' := by
  refine ⟨?_, fun a ha => ?_, fun a o h1 h2 => e'.keep a o (e.keep a o h1 h2) (e.out h1 h2)⟩
  · obtain ⟨t, rfl⟩ := e.pre
    obtain ⟨t', rfl⟩ := e'.pre
    exact ⟨t ++ t', by simp⟩
  · rcases e'.new a ha with h | h
    · exact e.new a h
    · cases q : H a with
      | none => exact .inr rfl
      | some u =>
        by_cases hm : a ∈ ι
        · exact .inl hm
        · have := e.keep a u q hm
          rw [h] at this; cases this
theorem OR.some (r : OR G ι H a o) : ∃ u, H a = some u := by
  cases r with
  | lst q _ => exact ⟨_, q⟩
  | dct q => exact ⟨_, q⟩
  | ins _ q => exact ⟨_, q⟩
theorem HR.mem (r : HR G ι h H) {a : Addr} (m : a ∈ ι) : ∃ u, H a = some u := by
  obtain ⟨i, hi, e⟩ := List.mem_iff_getElem.mp m
  have hi' : i < h.length := by rw [← r.len]; exact hi
  exact (r.at_ i h[i] a (by simp [hi']) (by rw [← e]; simp [hi])).some
theorem HR.out (r : HR G ι h H) {a : Addr} (m : H a = none) : a ∉ ι := fun q => by
  obtain ⟨u, e⟩ := r.mem q
  rw [m] at e; cases e
theorem HR.nrs (r : HR G ι h H) {a : Addr} (m : H a = none) : a ∉ G.rs := fun q => by
  obtain ⟨-, u, e⟩ := r.rsv a q
  rw [m] at e; cases e
theorem upd_has {a p : Addr} {u : HO} (q : ∃ w, H a = some w) : ∃ w, upd H p u a = some w := by
  by_cases e : a = p
  · subst e; exact ⟨u, upd_same⟩
  · rw [upd_ne e]; exact q
theorem HR.place (r : HR G ι h H) {i : Nat} {a : Addr} (e : ι[i]? = Option.some a) : ∃ o, h[i]? = Option.some o ∧ OR G ι H a o := by
  have hi := (List.getElem?_eq_some_iff.mp e).1
  rw [r.len] at hi
  exact ⟨h[i], by simp [hi], r.at_ i _ a (by simp [hi]) e⟩
/-- something new is laid -/
theorem Ext.laid (r : HR G ι h H) {p : Addr} {u : HO} (np : H p = none) : Ext ι H ι (upd H p u) := by
  refine ⟨⟨[], by simp⟩, fun _ m => .inl m, fun a o q n => ?_⟩
  rw [upd_ne (ne_of_none q np)]; exact q
/-- .. and is a place -/
theorem Ext.place {p : Addr} {u : HO} (np : H p = none) : Ext ι H (ι ++ [p]) (upd H p u) := by
  refine ⟨⟨[p], rfl⟩, fun a m => ?_, fun a o q n => ?_⟩
  · rcases List.mem_append.mp m with m | m
    · exact .inl m
    · simp at m; subst m; exact .inr np
  · rw [upd_ne (ne_of_none q np)]; exact q
/-- a place is written -/
theorem Ext.write {p : Addr} {u : HO} (m : p ∈ ι) : Ext ι H ι (upd H p u) := by
  refine ⟨⟨[], by simp⟩, fun _ m => .inl m, fun a o q n => ?_⟩
  rw [upd_ne (fun e => n (by rw [e]; exact m))]; exact q
theorem OR.ext (e : Ext ι H ι' H') (hk : H' a = H a) (r : OR G ι H a o) : OR G ι' H' a o := by
  cases r with
  | lst q r => exact .lst (hk.trans q) (r.ext e)
  | dct q z r1 r2 => exact .dct (hk.trans q) z (r1.ext e) (r2.ext e)
  | ins m q n r => exact .ins m (hk.trans q) n (r.ext e)
theorem HR.laid (r : HR G ι h H) {p : Addr} {u : HO} (np : H p = none) : HR G ι h (upd H p u) := by
  refine ⟨r.len, r.nd, fun i o a h1 h2 => (r.at_ i o a h1 h2).ext (Ext.laid r np) ?_, fun a m => ⟨(r.rsv a m).1, upd_has (r.rsv a m).2⟩⟩
  have : a ≠ p := fun e => r.out np (by rw [← e]; exact List.mem_of_getElem? h2)
  rw [upd_ne this]
theorem HR.place' (r : HR G ι h H) {p : Addr} {u : HO} (np : H p = none) (new : OR G (ι ++ [p]) (upd H p u) p o) : HR G (ι ++ [p]) (h ++ [o]) (upd H p u) := by
  have npm := r.out np
  refine ⟨by simp [r.len], ?_, fun i q a h1 h2 => ?_, fun a m => ⟨?_, upd_has (r.rsv a m).2⟩⟩
  · rw [List.nodup_append]
    refine ⟨r.nd, by simp, fun x hx y hy => ?_⟩
    simp at hy; subst hy
    rintro rfl; exact npm hx
  · by_cases hi : i < h.length
    · rw [List.getElem?_append_left hi] at h1
      rw [List.getElem?_append_left (by rw [r.len]; exact hi)] at h2
      have : a ≠ p := fun e => npm (by rw [← e]; exact List.mem_of_getElem? h2)
      exact (r.at_ i q a h1 h2).ext (Ext.place np) (by rw [upd_ne this])
    · have e : i = h.length := by
        have := (List.getElem?_eq_some_iff.mp h1).1
        simp at this; omega
      subst e
      have e1 : q = o := by simpa using h1.symm
      have e2 : a = p := by
        rw [← r.len] at h2
        simpa using h2.symm
      subst e1 e2; exact new
  · rw [List.mem_append, List.mem_singleton, not_or]
    exact ⟨(r.rsv a m).1, fun e => r.nrs np (by rw [← e]; exact m)⟩
theorem HR.write (r : HR G ι h H) {i : Nat} {p : Addr} {u : HO} (e : ι[i]? = some p) (new : OR G ι (upd H p u) p o) : HR G ι (h.set i o) (upd H p u) := by
  refine ⟨by simp [r.len], r.nd, fun j q a h1 h2 => ?_, fun a m => ⟨(r.rsv a m).1, upd_has (r.rsv a m).2⟩⟩
  have ex : Ext ι H ι (upd H p u) := Ext.write (List.mem_of_getElem? e)
  by_cases hij : i = j
  · subst hij
    rw [e] at h2; cases h2
    have hl := (List.getElem?_eq_some_iff.mp e).1
    rw [r.len] at hl
    rw [List.getElem?_set_self hl] at h1
    cases h1; exact new
  · rw [List.getElem?_set_ne hij] at h1
    have : a ≠ p := fun q => by
      subst q
      have h1 := List.getElem?_eq_some_iff.mp e
      have h2 := List.getElem?_eq_some_iff.mp h2
      exact hij ((List.getElem_inj r.nd).mp (h1.2.trans h2.2.symm))
    exact (r.at_ j q a h1 h2).ext ex (by rw [upd_ne this])
theorem DO.notTup {u : HO} {kvs vvs : List V} {ks : List D} (z : DO G a u kvs vvs ks) : (∀ xs, u ≠ .tup xs) ∧ (∀ o x, u ≠ .frz o x) ∧ (∀ xs, u ≠ .xd xs) ∧ (∀ xs, u ≠ .lst xs) := by
  cases z <;> exact ⟨(fun _ e => nomatch e), (fun _ _ e => nomatch e), (fun _ e => nomatch e), (fun _ e => nomatch e)⟩
theorem VRs.length : ∀ {vs : List V} {ds : List D}, VRs G ι H vs ds → vs.length = ds.length
  | _, _, .nil => rfl
  | _, _, .cons _ r => by simp [VRs.length r]
theorem VRs.get : ∀ {vs : List V} {ds : List D} {i : Nat} {d : D}, VRs G ι H vs ds → ds[i]? = some d → ∃ v, vs[i]? = some v ∧ VR G ι H v d
  | _, _, _, _, .nil, e => by simp at e
  | _, _, 0, _, .cons r _, e => by simp at e; subst e; exact ⟨_, rfl, r⟩
  | _, _, i + 1, d, .cons _ t, e => by
    obtain ⟨u, h1, h2⟩ := VRs.get (i := i) (d := d) t (by simpa using e)
    exact ⟨u, by simpa using h1, h2⟩
theorem VRs.append : ∀ {xs ys : List V} {us ws : List D}, VRs G ι H xs us → VRs G ι H ys ws → VRs G ι H (xs ++ ys) (us ++ ws)
  | _, _, _, _, .nil, s => s
  | _, _, _, _, .cons r t, s => .cons r (VRs.append t s)
theorem VRs.set (r : VR G ι H v d) : ∀ {xs : List V} {us : List D} (i : Nat), VRs G ι H xs us → VRs G ι H (xs.set i v) (us.set i d)
  | _, _, _, .nil => .nil
  | _, _, 0, .cons _ t => .cons r t
  | _, _, i + 1, .cons q t => .cons q (VRs.set r i t)
theorem VRs.take : ∀ {xs : List V} {us : List D} (n : Nat), VRs G ι H xs us → VRs G ι H (xs.take n) (us.take n)
  | _, _, 0, _ => .nil
  | _, _, _ + 1, .nil => .nil
  | _, _, n + 1, .cons r t => .cons r (VRs.take n t)
theorem VRs.drop : ∀ {xs : List V} {us : List D} (n : Nat), VRs G ι H xs us → VRs G ι H (xs.drop n) (us.drop n)
  | _, _, 0, r => r
  | _, _, _ + 1, .nil => .nil
  | _, _, n + 1, .cons _ t => VRs.drop n t
theorem VRs.map {xs : List V} : ∀ {ys : List D}, VRs G ι H xs ys → ∀ {f : V → V} {g : D → D}, (∀ v d, VR G ι H v d → VR G ι H (f v) (g d)) → VRs G ι H (xs.map f) (ys.map g)
  | _, .nil, _, _, _ => .nil
  | _, .cons r t, _, _, h => .cons (h _ _ r) (VRs.map t h)

/-! ### what an evaluation's end asks -/
abbrev WX4 := WX
def FinV (G : Gx) (W : WX) (ι : List Addr) (H : Hp) (σ : MSt) (r : R D) (Q : VK) : Prop := match r with
  | .ok d h' => ∀ ι' H' v, Ext ι H ι' H' → HR G ι' h' H' → VR G ι' H' v d → Q v H'
  | .xc x h' => ∀ ι' H' cls dd, Ext ι H ι' H' → HR G ι' h' H' → XR G ι' H' x cls dd → W cls dd σ H'
  | .er => False
def FinB (G : Gx) (W : WX) (ι : List Addr) (H : Hp) (σ : MSt) (r : R Bool) (Q : Bool → Hp → Prop) : Prop := match r with
  | .ok b h' => ∀ ι' H', Ext ι H ι' H' → HR G ι' h' H' → Q b H'
  | .xc x h' => ∀ ι' H' cls dd, Ext ι H ι' H' → HR G ι' h' H' → XR G ι' H' x cls dd → W cls dd σ H'
  | .er => False
def FinL (G : Gx) (W : WX) (ι : List Addr) (H : Hp) (σ : MSt) (r : R (List D)) (Q : List V → Hp → Prop) : Prop := match r with
  | .ok ds h' => ∀ ι' H' vs, Ext ι H ι' H' → HR G ι' h' H' → VRs G ι' H' vs ds → Q vs H'
  | .xc x h' => ∀ ι' H' cls dd, Ext ι H ι' H' → HR G ι' h' H' → XR G ι' H' x cls dd → W cls dd σ H'
  | .er => False
def tE (G : Gx) (W : WX) (cl : Cl) (e : E) : TE := fun σ H Q => ∃ ι ρ h, ER G ι H ρ σ ∧ HR G ι h H ∧ FinV G W ι H σ (evE cl e ρ h) Q
def tT (G : Gx) (W : WX) (cl : Cl) (e : E) : TT := fun σ H Q => ∃ ι ρ h, ER G ι H ρ σ ∧ HR G ι h H ∧ FinB G W ι H σ (tst (evE cl e ρ h)) Q
def tEs (G : Gx) (W : WX) (cl : Cl) (es : Es) : TA := fun σ H Q => ∃ ι ρ h, ER G ι H ρ σ ∧ HR G ι h H ∧ FinL G W ι H σ (evEs cl es ρ h) Q
def FinO (G : Gx) (W : WX) (ι : List Addr) (H : Hp) (o : Out) (D : Ends) : Prop := match o with
  | .nx ρ' h' => ∀ ι' H' σ', Ext ι H ι' H' → HR G ι' h' H' → ER G ι' H' ρ' σ' → D.nx σ' H'
  | .rt d _ h' => ∀ ι' H' v, Ext ι H ι' H' → HR G ι' h' H' → VR G ι' H' v d → D.rt v H'
  | .bk ρ' h' => ∀ ι' H' σ', Ext ι H ι' H' → HR G ι' h' H' → ER G ι' H' ρ' σ' → D.bk σ' H'
  | .ct ρ' h' => ∀ ι' H' σ', Ext ι H ι' H' → HR G ι' h' H' → ER G ι' H' ρ' σ' → D.ct σ' H'
  | .xc x ρ' h' => ∀ ι' H' σ' cls dd, Ext ι H ι' H' → HR G ι' h' H' → ER G ι' H' ρ' σ' → XR G ι' H' x cls dd → W cls dd σ' H'
  | .er => False
def tS (G : Gx) (W : WX) (cl : Cl) (w : Nat) (s : S) : TS := fun D σ H => ∃ ι ρ h, ER G ι H ρ σ ∧ HR G ι h H ∧ FinO G W ι H (evS cl w s ρ h) D
def tSs (G : Gx) (W : WX) (cl : Cl) (w : Nat) (s : Ss) : TS := fun D σ H => ∃ ι ρ h, ER G ι H ρ σ ∧ HR G ι h H ∧ FinO G W ι H (evSs cl w s ρ h) D

/-- one after another -/
theorem FinV.bind {W : WX} {r : R D} {k : D → Hq → R D} {Q : VK} (f : FinV G W ι H σ (r.bind k) Q) :
    FinV G W ι H σ r fun v1 H1 => ∃ ι1 d1 h1, Ext ι H ι1 H1 ∧ HR G ι1 h1 H1 ∧ VR G ι1 H1 v1 d1 ∧ r = .ok d1 h1 ∧ FinV G W ι1 H1 σ (k d1 h1) Q := by
  cases r with
  | ok d1 h1 =>
    intro ι1 H1 v1 e1 r1 q1
    refine ⟨ι1, d1, h1, e1, r1, q1, rfl, ?_⟩
    rw [R.bind_ok] at f
    cases q : k d1 h1 with
    | ok d2 h2 => rw [q] at f; exact fun ι2 H2 v2 e2 r2 q2 => f ι2 H2 v2 (e1.trans e2) r2 q2
    | xc x h2 => rw [q] at f; exact fun ι2 H2 c dd e2 r2 q2 => f ι2 H2 c dd (e1.trans e2) r2 q2
    | er => rw [q] at f; exact f
  | xc x h1 => exact f
  | er => exact f
theorem FinV.bindB {W : WX} {r : R D} {k : D → Hq → R Bool} {Q : Bool → Hp → Prop} (f : FinB G W ι H σ (r.bind k) Q) :
    FinV G W ι H σ r fun v1 H1 => ∃ ι1 d1 h1, Ext ι H ι1 H1 ∧ HR G ι1 h1 H1 ∧ VR G ι1 H1 v1 d1 ∧ r = .ok d1 h1 ∧ FinB G W ι1 H1 σ (k d1 h1) Q := by
  cases r with
  | ok d1 h1 =>
    intro ι1 H1 v1 e1 r1 q1
    refine ⟨ι1, d1, h1, e1, r1, q1, rfl, ?_⟩
    rw [R.bind_ok] at f
    cases q : k d1 h1 with
    | ok d2 h2 => rw [q] at f; exact fun ι2 H2 e2 r2 => f ι2 H2 (e1.trans e2) r2
    | xc x h2 => rw [q] at f; exact fun ι2 H2 c dd e2 r2 q2 => f ι2 H2 c dd (e1.trans e2) r2 q2
    | er => rw [q] at f; exact f
  | xc x h1 => exact f
  | er => exact f
theorem FinV.bindL {W : WX} {r : R D} {k : D → Hq → R (List D)} {Q : List V → Hp → Prop} (f : FinL G W ι H σ (r.bind k) Q) :
    FinV G W ι H σ r fun v1 H1 => ∃ ι1 d1 h1, Ext ι H ι1 H1 ∧ HR G ι1 h1 H1 ∧ VR G ι1 H1 v1 d1 ∧ r = .ok d1 h1 ∧ FinL G W ι1 H1 σ (k d1 h1) Q := by
  cases r with
  | ok d1 h1 =>
    intro ι1 H1 v1 e1 r1 q1
    refine ⟨ι1, d1, h1, e1, r1, q1, rfl, ?_⟩
    rw [R.bind_ok] at f
    cases q : k d1 h1 with
    | ok d2 h2 => rw [q] at f; exact fun ι2 H2 v2 e2 r2 q2 => f ι2 H2 v2 (e1.trans e2) r2 q2
    | xc x h2 => rw [q] at f; exact fun ι2 H2 c dd e2 r2 q2 => f ι2 H2 c dd (e1.trans e2) r2 q2
    | er => rw [q] at f; exact f
  | xc x h1 => exact f
  | er => exact f
theorem FinB.bind {W : WX} {r : R Bool} {k : Bool → Hq → R D} {Q : VK} (f : FinV G W ι H σ (r.bind k) Q) :
    FinB G W ι H σ r fun b H1 => ∃ ι1 h1, Ext ι H ι1 H1 ∧ HR G ι1 h1 H1 ∧ r = .ok b h1 ∧ FinV G W ι1 H1 σ (k b h1) Q := by
  cases r with
  | ok d1 h1 =>
    intro ι1 H1 e1 r1
    refine ⟨ι1, h1, e1, r1, rfl, ?_⟩
    rw [R.bind_ok] at f
    cases q : k d1 h1 with
    | ok d2 h2 => rw [q] at f; exact fun ι2 H2 v2 e2 r2 q2 => f ι2 H2 v2 (e1.trans e2) r2 q2
    | xc x h2 => rw [q] at f; exact fun ι2 H2 c dd e2 r2 q2 => f ι2 H2 c dd (e1.trans e2) r2 q2
    | er => rw [q] at f; exact f
  | xc x h1 => exact f
  | er => exact f
theorem FinL.bind {W : WX} {r : R (List D)} {k : List D → Hq → R D} {Q : VK} (f : FinV G W ι H σ (r.bind k) Q) :
    FinL G W ι H σ r fun vs1 H1 => ∃ ι1 ds1 h1, Ext ι H ι1 H1 ∧ HR G ι1 h1 H1 ∧ VRs G ι1 H1 vs1 ds1 ∧ r = .ok ds1 h1 ∧ FinV G W ι1 H1 σ (k ds1 h1) Q := by
  cases r with
  | ok d1 h1 =>
    intro ι1 H1 v1 e1 r1 q1
    refine ⟨ι1, d1, h1, e1, r1, q1, rfl, ?_⟩
    rw [R.bind_ok] at f
    cases q : k d1 h1 with
    | ok d2 h2 => rw [q] at f; exact fun ι2 H2 v2 e2 r2 q2 => f ι2 H2 v2 (e1.trans e2) r2 q2
    | xc x h2 => rw [q] at f; exact fun ι2 H2 c dd e2 r2 q2 => f ι2 H2 c dd (e1.trans e2) r2 q2
    | er => rw [q] at f; exact f
  | xc x h1 => exact f
  | er => exact f
/-- an expression ahead of what a statement does -/
theorem FinV.out {W : WX} {r : R D} {k : D → Hq → Out} {D : Ends} (er : ER G ι H ρ σ) (f : FinO G W ι H (Out.of r ρ k) D) :
    FinV G W ι H σ r fun v1 H1 => ∃ ι1 d1 h1, Ext ι H ι1 H1 ∧ HR G ι1 h1 H1 ∧ VR G ι1 H1 v1 d1 ∧ r = .ok d1 h1 ∧ FinO G W ι1 H1 (k d1 h1) D := by
  cases r with
  | ok d1 h1 =>
    intro ι1 H1 v1 e1 r1 q1
    refine ⟨ι1, d1, h1, e1, r1, q1, rfl, ?_⟩
    rw [Out.of_ok] at f
    cases q : k d1 h1 with
    | nx ρ2 h2 => rw [q] at f; exact fun ι2 H2 s e2 r2 q2 => f ι2 H2 s (e1.trans e2) r2 q2
    | bk ρ2 h2 => rw [q] at f; exact fun ι2 H2 s e2 r2 q2 => f ι2 H2 s (e1.trans e2) r2 q2
    | ct ρ2 h2 => rw [q] at f; exact fun ι2 H2 s e2 r2 q2 => f ι2 H2 s (e1.trans e2) r2 q2
    | rt d ρ2 h2 => rw [q] at f; exact fun ι2 H2 s e2 r2 q2 => f ι2 H2 s (e1.trans e2) r2 q2
    | xc x ρ2 h2 => rw [q] at f; exact fun ι2 H2 s c dd e2 r2 q2 q3 => f ι2 H2 s c dd (e1.trans e2) r2 q2 q3
    | er => rw [q] at f; exact f
  | xc x h1 => exact fun ι' H' cls dd e' r' x' => f ι' H' σ cls dd e' r' (er.ext e') x'
  | er => exact f
theorem FinB.out {W : WX} {r : R Bool} {k : Bool → Hq → Out} {D : Ends} (er : ER G ι H ρ σ) (f : FinO G W ι H (Out.of r ρ k) D) :
    FinB G W ι H σ r fun b H1 => ∃ ι1 h1, Ext ι H ι1 H1 ∧ HR G ι1 h1 H1 ∧ r = .ok b h1 ∧ FinO G W ι1 H1 (k b h1) D := by
  cases r with
  | ok d1 h1 =>
    intro ι1 H1 e1 r1
    refine ⟨ι1, h1, e1, r1, rfl, ?_⟩
    rw [Out.of_ok] at f
    cases q : k d1 h1 with
    | nx ρ2 h2 => rw [q] at f; exact fun ι2 H2 s e2 r2 q2 => f ι2 H2 s (e1.trans e2) r2 q2
    | bk ρ2 h2 => rw [q] at f; exact fun ι2 H2 s e2 r2 q2 => f ι2 H2 s (e1.trans e2) r2 q2
    | ct ρ2 h2 => rw [q] at f; exact fun ι2 H2 s e2 r2 q2 => f ι2 H2 s (e1.trans e2) r2 q2
    | rt d ρ2 h2 => rw [q] at f; exact fun ι2 H2 s e2 r2 q2 => f ι2 H2 s (e1.trans e2) r2 q2
    | xc x ρ2 h2 => rw [q] at f; exact fun ι2 H2 s c dd e2 r2 q2 q3 => f ι2 H2 s c dd (e1.trans e2) r2 q2 q3
    | er => rw [q] at f; exact f
  | xc x h1 => exact fun ι' H' cls dd e' r' x' => f ι' H' σ cls dd e' r' (er.ext e') x'
  | er => exact f
theorem FinL.out {W : WX} {r : R (List D)} {k : List D → Hq → Out} {D : Ends} (er : ER G ι H ρ σ) (f : FinO G W ι H (Out.of r ρ k) D) :
    FinL G W ι H σ r fun v1 H1 => ∃ ι1 d1 h1, Ext ι H ι1 H1 ∧ HR G ι1 h1 H1 ∧ VRs G ι1 H1 v1 d1 ∧ r = .ok d1 h1 ∧ FinO G W ι1 H1 (k d1 h1) D := by
  cases r with
  | ok d1 h1 =>
    intro ι1 H1 v1 e1 r1 q1
    refine ⟨ι1, d1, h1, e1, r1, q1, rfl, ?_⟩
    rw [Out.of_ok] at f
    cases q : k d1 h1 with
    | nx ρ2 h2 => rw [q] at f; exact fun ι2 H2 s e2 r2 q2 => f ι2 H2 s (e1.trans e2) r2 q2
    | bk ρ2 h2 => rw [q] at f; exact fun ι2 H2 s e2 r2 q2 => f ι2 H2 s (e1.trans e2) r2 q2
    | ct ρ2 h2 => rw [q] at f; exact fun ι2 H2 s e2 r2 q2 => f ι2 H2 s (e1.trans e2) r2 q2
    | rt d ρ2 h2 => rw [q] at f; exact fun ι2 H2 s e2 r2 q2 => f ι2 H2 s (e1.trans e2) r2 q2
    | xc x ρ2 h2 => rw [q] at f; exact fun ι2 H2 s c dd e2 r2 q2 q3 => f ι2 H2 s c dd (e1.trans e2) r2 q2 q3
    | er => rw [q] at f; exact f
  | xc x h1 => exact fun ι' H' cls dd e' r' x' => f ι' H' σ cls dd e' r' (er.ext e') x'
  | er => exact f
theorem FinV.imp {W : WX} {r : R D} {Q Q' : VK} (f : FinV G W ι H σ r Q) (h : ∀ v H, Q v H → Q' v H) : FinV G W ι H σ r Q' := by
  cases r with
  | ok d h1 => exact fun ι' H' v e r q => h _ _ (f ι' H' v e r q)
  | xc x h1 => exact f
  | er => exact f
theorem FinB.imp {W : WX} {r : R Bool} {Q Q' : Bool → Hp → Prop} (f : FinB G W ι H σ r Q) (h : ∀ v H, Q v H → Q' v H) : FinB G W ι H σ r Q' := by
  cases r with
  | ok d h1 => exact fun ι' H' e r => h _ _ (f ι' H' e r)
  | xc x h1 => exact f
  | er => exact f
theorem FinL.imp {W : WX} {r : R (List D)} {Q Q' : List V → Hp → Prop} (f : FinL G W ι H σ r Q) (h : ∀ v H, Q v H → Q' v H) : FinL G W ι H σ r Q' := by
  cases r with
  | ok d h1 => exact fun ι' H' v e r q => h _ _ (f ι' H' v e r q)
  | xc x h1 => exact f
  | er => exact f
theorem FinO.ext {W : WX} {o : Out} {D : Ends} (f : FinO G W ι H o D) (e1 : Ext ι H ι' H') : FinO G W ι' H' o D := by
  cases o with
  | nx ρ2 h2 => exact fun ι2 H2 s e2 r2 q2 => f ι2 H2 s (e1.trans e2) r2 q2
  | bk ρ2 h2 => exact fun ι2 H2 s e2 r2 q2 => f ι2 H2 s (e1.trans e2) r2 q2
  | ct ρ2 h2 => exact fun ι2 H2 s e2 r2 q2 => f ι2 H2 s (e1.trans e2) r2 q2
  | rt d ρ2 h2 => exact fun ι2 H2 s e2 r2 q2 => f ι2 H2 s (e1.trans e2) r2 q2
  | xc x ρ2 h2 => exact fun ι2 H2 s c dd e2 r2 q2 q3 => f ι2 H2 s c dd (e1.trans e2) r2 q2 q3
  | er => exact f
end Rx

set_option maxHeartbeats 4000000
/-! RxR: tuple * 0 and tuple * 1. -/
namespace Rx
open PySem PySem.Spec PyProof.Rows L2
abbrev tupO (dd : Option Addr) (items : Array Value) (n : Nat) (sl : Array (Option Value)) : Obj := { cls := .type "tuple", dict := dd, data := .seq items n, slots := sl }
theorem mul_one (l : Addr) (items : Array Value) (n : Nat) (dd : Option Addr) (sl : Array (Option Value)) (u : Tok) :
    Meets (Builtin.«tuple.__mul__» ⟨[.ref l, .int 1 u], []⟩) (fun _ R s => s.heap.get? l = some (tupO dd items n sl) ∧ R (.ok (.ret (Value.ref l))) s) :=
  .of_wp fun prog w A R s h => by
    obtain ⟨hp, g, d, tk, os⟩ := s
    obtain ⟨hl, h⟩ := h
    have f1 := AutoSeq1.idx_int
    wp_walk using wpAny_loadPart' hl
    exact ⟨_, rfl, h⟩
theorem mul_zero (l : Addr) (items : Array Value) (n : Nat) (dd : Option Addr) (sl : Array (Option Value)) (u : Tok) (ne : items.isEmpty = false) :
    Meets (Builtin.«tuple.__mul__» ⟨[.ref l, .int 0 u], []⟩) (fun _ R s => s.heap.get? l = some (tupO dd items n sl) ∧ R (.ok (.ret (Value.ref s.heap.objs.size))) { s with heap := s.heap.push { cls := Value.type "tuple", data := Data.seq #[] } }) :=
  .of_wp fun prog w A R s h => by
    obtain ⟨hp, g, d, tk, os⟩ := s
    obtain ⟨hl, h⟩ := h
    have f1 := AutoSeq1.idx_int
    wp_walk using wpAny_loadPart' hl
    exact ⟨_, rfl, h⟩
/-- a tuple once, or no times -/
def rRep01 (K : PySem.W.Frag) : R2 := fun x y H Q => ∃ l k xs, x = .ref l ∧ y = .int k ∧ SqT K H l xs ∧ xs ≠ [] ∧ ((k = 1 ∧ Q (.ref l) H) ∨ (k = 0 ∧ ∀ p, H p = none → Q (.ref p) (upd H p (.tup []))))
theorem op_rep01 {X : Cx} : OpR X (binaryOp .Mult) (rRep01 X.K) := by
  rintro pins s σ H x y v u Q I rx ry ⟨l, k, xs, rfl, rfl, st, ne, q⟩
  cases rx
  obtain ⟨t, rfl⟩ := ry
  obtain ⟨its, r, ⟨⟨cls, dd, data, sl⟩, ho, hc, n, hd⟩, hs⟩ := I.tuple st
  simp only at hc hd
  subst hc hd
  have em : its.toArray.isEmpty = false := by
    cases its with
    | nil => cases r; exact absurd rfl ne
    | cons a b => rfl
  have ty : s.TypeIs (.ref l) "tuple" := ⟨_, ho, rfl⟩
  rcases q with ⟨rfl, q⟩ | ⟨rfl, q⟩
  · refine wpAny_binaryOp_repeat_ref (T := "tuple") (U := "int") (by decide) ty (fun s' => typeIs_int s' 1 t) noFill_tuple_mul F.fills_int_mul F.slot_int_rmul repeat_tuple F.slot_int_index.lookup
      (call_meets F.slot_int_rmul (typeIs_int s 1 t) F.entry_int_rmul (F.args_int_rmul_2 _ _) (int_rmul_tuple 1 t l its.toArray n dd sl)
        ⟨ho, rfl, ty, call_meets F.slot_tuple_mul ty F.entry_tuple_mul (F.args_tuple_mul_2 _ _) (mul_one l its.toArray n dd sl t) ⟨ho, ?_⟩⟩)
    exact ⟨.ref l, H, I, rfl, q⟩
  · refine wpAny_binaryOp_repeat_ref (T := "tuple") (U := "int") (by decide) ty (fun s' => typeIs_int s' 0 t) noFill_tuple_mul F.fills_int_mul F.slot_int_rmul repeat_tuple F.slot_int_index.lookup
      (call_meets F.slot_int_rmul (typeIs_int s 0 t) F.entry_int_rmul (F.args_int_rmul_2 _ _) (int_rmul_tuple 0 t l its.toArray n dd sl)
        ⟨ho, rfl, ty, call_meets F.slot_tuple_mul ty F.entry_tuple_mul (F.args_tuple_mul_2 _ _) (mul_zero l its.toArray n dd sl t em) ⟨ho, ?_⟩⟩)
    refine ⟨.ref s.heap.objs.size, _, I.laid (t' := s.toks) (o := .tup []) (fun b ob q => Heap.get?_push_of_some _ q) (Nat.le_refl _) ?_, rfl, q _ (I.hok.fresh (Nat.le_refl _))⟩
    exact ⟨Nat.zero_le _, [], .nil, IsTup.new _ _⟩
end Rx

/-! RxO: what is seen of a value; ends. -/
namespace Rx
open PySem L2
variable {G : Gx} {W : WX} {ι ι' : List Addr} {H H' : Hp} {h h' : Hq} {ρ : Ev} {σ : MSt} {v : V} {d : D} {vs : List V} {ds xs : List D} {a : Addr} {Q : VK}


theorem HR.ob (r : HR G ι h H) {i : Nat} {a : Addr} {o : Ob} (e : ι[i]? = some a) (q : h[i]? = some o) : OR G ι H a o := r.at_ i o a q e

theorem view_tup (r : HR G ι h H) (q : VR G ι H v d) (e : view h d = .tup xs) : ∃ a vs, v = .ref a ∧ TQ G ι H a vs ∧ VRs G ι H vs xs := by
  cases q with
  | tup q1 q2 =>
    cases e
    exact ⟨_, _, rfl, q1, q2⟩
  | ref q1 =>
    unfold view at e
    split at e <;> (try (split at e)) <;> cases e
  | _ => cases e
theorem view_lst (r : HR G ι h H) (q : VR G ι H v d) (e : view h d = .lst xs) : ∃ a vs, v = .ref a ∧ SqL G.K H a vs ∧ VRs G ι H vs xs := by
  cases q with
  | lst n q1 q2 =>
    cases e
    exact ⟨_, _, rfl, .inl (.inl q1), q2⟩
  | slst q1 q2 =>
    cases e
    exact ⟨_, _, rfl, q1.sq, q2⟩
  | ref q1 =>
    obtain ⟨o, ho, ro⟩ := r.place q1
    simp only [view, ho] at e
    cases ro with
    | lst u1 u2 =>
      cases e
      exact ⟨_, _, rfl, .inl (.inl u1), u2⟩
    | dct => cases e
    | ins => cases e
  | _ => cases e
theorem viewM_lst (r : HR G ι h H) (q : VR G ι H v d) (e : viewM h d = .lst xs) : ∃ a vs, v = .ref a ∧ H a = some (.lst vs) ∧ VRs G ι H vs xs := by
  cases q with
  | lst n q1 q2 =>
    cases e
    exact ⟨_, _, rfl, q1, q2⟩
  | ref q1 =>
    obtain ⟨o, ho, ro⟩ := r.place q1
    simp only [viewM, view, ho] at e
    cases ro with
    | lst u1 u2 =>
      cases e
      exact ⟨_, _, rfl, u1, u2⟩
    | dct => cases e
    | ins => cases e
  | _ => cases e
theorem viewM_tup (r : HR G ι h H) (q : VR G ι H v d) (e : viewM h d = .tup xs) : ∃ a vs, v = .ref a ∧ TQ G ι H a vs ∧ VRs G ι H vs xs := by
  refine view_tup r q ?_
  cases d <;> first | exact e | (cases e)
theorem view_dct {ks ws : List D} (r : HR G ι h H) (q : VR G ι H v d) (e : view h d = .dct ks ws) : ∃ a o kvs vvs, v = .ref a ∧ H a = some o ∧ DO G a o kvs vvs ks ∧ VRs G ι H kvs ks ∧ VRs G ι H vvs ws := by
  cases q with
  | dct n q1 q2 q3 q4 =>
    cases e
    exact ⟨_, _, _, _, rfl, q1, q2, q3, q4⟩
  | ref q1 =>
    obtain ⟨o, ho, ro⟩ := r.place q1
    simp only [view, ho] at e
    cases ro with
    | dct q1 q2 q3 q4 =>
      cases e
      exact ⟨_, _, _, _, rfl, q1, q2, q3, q4⟩
    | lst => cases e
    | ins => cases e
  | _ => cases e
theorem view_int {i : Int} (q : VR G ι H v d) (e : view h d = .int i) : v = .int i := by
  cases q with
  | int => cases e; rfl
  | ref q1 => unfold view at e; split at e <;> (try (split at e)) <;> cases e
  | _ => cases e
theorem view_str {x : Str} (q : VR G ι H v d) (e : view h d = .str x) : v = .str x := by
  cases q with
  | str => cases e; rfl
  | ref q1 => unfold view at e; split at e <;> (try (split at e)) <;> cases e
  | _ => cases e
theorem view_bl {x : Bool} (q : VR G ι H v d) (e : view h d = .bl x) : v = .bl x := by
  cases q with
  | bl => cases e; rfl
  | ref q1 => unfold view at e; split at e <;> (try (split at e)) <;> cases e
  | _ => cases e
theorem view_non (q : VR G ι H v d) (e : view h d = .non) : v = .non := by
  cases q with
  | non => rfl
  | ref q1 => unfold view at e; split at e <;> (try (split at e)) <;> cases e
  | _ => cases e
theorem seq_of (r : HR G ι h H) (q : VR G ι H v d) (e : seqOf h d = some xs) : ∃ a vs, v = .ref a ∧ (SqL G.K H a vs ∨ SqT G.K H a vs) ∧ VRs G ι H vs xs := by
  unfold seqOf at e
  split at e
  · rename_i ys hv
    cases e
    obtain ⟨a, vs, h1, h2, h3⟩ := view_tup r q hv
    exact ⟨a, vs, h1, .inr h2.sq, h3⟩
  · rename_i ys hv
    cases e
    obtain ⟨a, vs, h1, h2, h3⟩ := view_lst r q hv
    exact ⟨a, vs, h1, .inl h2, h3⟩
  · cases e
theorem VR.intD {i : Int} (q : VR G ι H v (.int i)) : v = .int i := by cases q; rfl
theorem VR.strD {i : Str} (q : VR G ι H v (.str i)) : v = .str i := by cases q; rfl
theorem VR.blD {i : Bool} (q : VR G ι H v (.bl i)) : v = .bl i := by cases q; rfl
theorem VR.nonD (q : VR G ι H v .non) : v = .non := by cases q; rfl

/-! ### ends -/
theorem fin_same (f : FinV G W ι H σ (.ok d h) Q) (r : HR G ι h H) (q : VR G ι H v d) : Q v H := f ι H v .refl r q
theorem fin_tup (f : FinV G W ι H σ (.ok (.tup ds) h) Q) (r : HR G ι h H) (q : VRs G ι H vs ds) {p : Addr} (np : H p = none) : Q (.ref p) (upd H p (.tup vs)) :=
  f ι _ _ (Ext.laid r np) (r.laid np) (.tup (.inl ⟨r.out np, .inl upd_same⟩) (q.ext (Ext.laid r np)))
theorem fin_lst (f : FinV G W ι H σ (.ok (.lst ds) h) Q) (r : HR G ι h H) (q : VRs G ι H vs ds) {p : Addr} (np : H p = none) : Q (.ref p) (upd H p (.lst vs)) :=
  f ι _ _ (Ext.laid r np) (r.laid np) (.lst ⟨r.out np, r.nrs np⟩ upd_same (q.ext (Ext.laid r np)))
theorem fin_lstM (f : FinV G W ι H σ (.ok (.ref h.length) (h ++ [.lst ds])) Q) (r : HR G ι h H) (q : VRs G ι H vs ds) {p : Addr} (np : H p = none) : Q (.ref p) (upd H p (.lst vs)) :=
  f (ι ++ [p]) _ _ (Ext.place np) (r.place' np (.lst upd_same (q.ext (Ext.place np)))) (.ref (by rw [← r.len]; simp))

end Rx

/-! RxT: dicts whose keys are tuples of any depth. -/
namespace Rx
open PySem L2
variable {G : Gx} {W : WX} {ι ι' : List Addr} {H H' : Hp} {h h' : Hq} {σ : MSt} {v : V} {d : D} {vs : List V} {ds ks ws : List D} {a : Addr} {Q : VK}
variable {X : Cx} {pins : List (Addr × Obj)} {s : Shared}

theorem key_lst (n : Nat) (xs : List D) : keyOk n (.lst xs) = false := by cases n <;> rfl
theorem key_slst (n : Nat) (xs : List D) : keyOk n (.slst xs) = false := by cases n <;> rfl
theorem key_dct (n : Nat) (xs ys : List D) : keyOk n (.dct xs ys) = false := by cases n <;> rfl
theorem key_ref (n : Nat) (i : Nat) : keyOk n (.ref i) = false := by cases n <;> rfl
mutual
/-- a value that may be a key is this key in memory -/
theorem VR.nkey (hK : X.K = G.K) (I : Inv X pins σ H s) : ∀ {v : V} {d : D} {n : Nat} {u : Value}, VR G ι H v d → keyOk n d = true → RelV v u → NestedIs s.heap (toK d) u
  | _, _, _, _, .non, _, r => by cases r; exact .none
  | _, _, _, _, .bl b, _, r => by
    obtain rfl : _ = Value.bool b := r
    exact .bool rfl
  | _, _, _, _, .int i, _, r => by
    obtain ⟨t, rfl⟩ := r
    exact .int i t
  | _, _, _, _, .str x, _, r => by
    obtain ⟨t, rfl⟩ := r
    exact .text x t
  | _, _, 0, _, .tup _ _, p, _ => by simp [keyOk] at p
  | _, _, n + 1, _, .tup q t, p, r => by
    cases r
    obtain ⟨its, rv, ⟨o, e1, e2⟩, -⟩ := I.tuple (by rw [hK]; exact q.sq)
    obtain ⟨e3, n, e4⟩ := e2
    exact .tup e1 e3 e4 (VRs.nkeys hK I t (by simpa [keyOk] using p) (by simpa using rv))
  | _, _, _, _, .lst _ _ _, p, _ => by rw [key_lst] at p; cases p
  | _, _, _, _, .slst _ _, p, _ => by rw [key_slst] at p; cases p
  | _, _, _, _, .dct _ _ _ _ _, p, _ => by rw [key_dct] at p; cases p
  | _, _, _, _, .ref _, p, _ => by rw [key_ref] at p; cases p
theorem VRs.nkeys (hK : X.K = G.K) (I : Inv X pins σ H s) : ∀ {vs : List V} {ds : List D} {n : Nat} {us : List Value}, VRs G ι H vs ds → (∀ x ∈ ds, keyOk n x = true) → Vals vs us → NestedAll s.heap (toKs ds) us
  | _, _, _, _, .nil, _, .nil => .nil
  | _, _, _, _, .cons r t, p, .cons q w => .cons (VR.nkey hK I r (p _ (List.mem_cons_self ..)) q) (VRs.nkeys hK I t (fun x m => p x (List.mem_cons_of_mem _ m)) w)
end

mutual
theorem key_depth : ∀ {n : Nat} {d : D}, keyOk n d = true → (toK d).depth ≤ n
  | _, .non, _ => Nat.zero_le _
  | _, .bl _, _ => Nat.zero_le _
  | _, .int _, _ => Nat.zero_le _
  | _, .str _, _ => Nat.zero_le _
  | 0, .tup _, p => by simp [keyOk] at p
  | n + 1, .tup xs, p => by
    have := keys_depth (n := n) (ds := xs) (by simpa [keyOk] using p)
    show NestedKey.depthAll (toKs xs) + 1 ≤ n + 1
    omega
  | n, .lst xs, p => by rw [key_lst] at p; cases p
  | n, .slst xs, p => by rw [key_slst] at p; cases p
  | n, .dct xs ys, p => by rw [key_dct] at p; cases p
  | n, .ref i, p => by rw [key_ref] at p; cases p
  | n, .clo i xs, p => by cases n <;> cases p
  | n, .hole, p => by cases n <;> cases p
theorem keys_depth : ∀ {n : Nat} {ds : List D}, (∀ x ∈ ds, keyOk n x = true) → NestedKey.depthAll (toKs ds) ≤ n
  | _, [], _ => Nat.zero_le _
  | n, d :: ds, p => by
    have h1 := key_depth (p d (List.mem_cons_self ..))
    have h2 := keys_depth (n := n) (ds := ds) fun x m => p x (List.mem_cons_of_mem _ m)
    show max (toK d).depth (NestedKey.depthAll (toKs ds)) ≤ n
    omega
end
theorem zip_get {α β : Type} {f : α → β} : ∀ {xs : List α} {x : α}, x ∈ xs → ∃ i : Nat, xs[i]? = some x := fun m => List.mem_iff_getElem?.mp m
theorem KXR.keys : ∀ {xs : KX} {ys : List (PySem.NestedKey × Addr × Value)}, KXR xs ys → xs.map (·.1) = ys.map (·.1) ∧ xs.map (·.2.1) = ys.map (·.2.1)
  | _, _, .nil => ⟨rfl, rfl⟩
  | _, _, .cons r t => by
    obtain ⟨h1, h2⟩ := KXR.keys t
    rw [List.map_cons, List.map_cons, List.map_cons, List.map_cons, h1, h2, r.1, r.2.1]
    exact ⟨rfl, rfl⟩
theorem KXR.len {xs : KX} {ys : List (PySem.NestedKey × Addr × Value)} (r : KXR xs ys) : xs.length = ys.length := Paired.length r
/-- the dict in memory -/
theorem nk_at (hK : X.K = G.K) (hP : X.prog = G.P) (hw : X.w = G.w) (I : Inv X pins σ H s) {xs : KX} (ho : H a = some (nkO G.P G.w a xs)) (q : VRs G ι H (xs.map fun x => V.ref x.2.1) ks)
    (e : xs.map (·.1) = ks.map toK) (k8 : ks.all (keyOk 8) = true) : (a == sysModules) = false ∧ ∃ ys, KXR xs ys ∧ s.heap.DictOfH (nestedKind X.prog X.w) a ys := by
  obtain ⟨⟨hs, ys, rel, o, es, ep, h1, h2, h3, h4, h5⟩, -⟩ := I.hok a _ ho
  rw [← hP, ← hw] at h4
  obtain ⟨z1, z2⟩ := rel.keys
  refine ⟨hs, ys, rel, o, es, ep, h1, h2, h3, h4, fun x m => ?_, h5⟩
  obtain ⟨i, hi⟩ := List.mem_iff_getElem?.mp m
  have lk : ∃ d, ks[i]? = some d ∧ toK d = x.1 := by
    have z := congrArg (fun l => l[i]?) (z1.symm.trans e)
    rw [List.getElem?_map, List.getElem?_map, hi] at z
    cases y : ks[i]? with
    | none => rw [y] at z; cases z
    | some d => rw [y] at z; exact ⟨d, rfl, (Option.some.inj z).symm⟩
  obtain ⟨d, hd, ed⟩ := lk
  obtain ⟨v, hv, r⟩ := q.get hd
  have hv2 : v = .ref x.2.1 := by
    have z := congrArg (fun l => l[i]?) z2
    rw [List.getElem?_map, List.getElem?_map, hi] at z
    rw [List.getElem?_map] at hv
    cases y : xs[i]? with
    | none => rw [y] at z; cases z
    | some p =>
      rw [y] at z hv
      cases hv
      exact congrArg V.ref (Option.some.inj z)
  have kd : keyOk 8 d = true := by rw [List.all_eq_true] at k8; exact k8 d (List.mem_of_getElem? hd)
  rw [← ed]
  subst hv2
  exact ⟨VR.nkey hK I r kd rfl, key_depth kd⟩
theorem isTup_ref (q : VR G ι H v d) (t : isTup d = true) : ∃ b, v = .ref b := by
  cases d with
  | tup xs => cases q; exact ⟨_, rfl⟩
  | _ => cases t
/-- the object of such a dict, from its being there -/
theorem nk_ok {h' : Heap} {P : Program} {w : World} {xs : KX} {ys : List (PySem.NestedKey × Addr × Value)} (hs : (a == sysModules) = false) (r : KXR xs ys) (m : h'.DictOfH (nestedKind P w) a ys) : ObjOk P w H h' a (nkO P w a xs) := by
  obtain ⟨o, es, ep, h1, h2, h3, h4, -, h5⟩ := m
  exact ⟨⟨hs, ys, r, o, es, ep, h1, h2, h3, h4, h5⟩, ⟨o, h1⟩, fun q1 q2 ⟨hs, ys, r, o, es, ep, h1, h2, h3, h4, h5⟩ st => ⟨hs, ys, r, o, es, ep, st o h1, h2, h3, h4, h5⟩⟩
/-- an empty dict is one with tuples for keys -/
theorem nk_nil {h' : Heap} {P : Program} {w : World} (m : h'.DictOf (mixKind P w) a []) : h'.DictOfH (nestedKind P w) a [] := by
  obtain ⟨o, es, ep, h1, h2, h3, h4, h5, h6⟩ := m
  have : es.toList = [] := by cases z : es.toList with
    | nil => rfl
    | cons e l => rw [z] at h5; cases h5
  exact ⟨o, es, ep, h1, h2, h3, by rw [this]; rfl, (fun x m => nomatch m), List.nodup_nil⟩
end Rx

/-! RxP: what a dict becomes by d[k] = v, keys of all kinds; dict comprehensions of such. -/
namespace Rx
open PySem L2
open PyProof.Rows (envOfC)
variable {G : Gx} {W : WX} {ι ι' : List Addr} {H H' : Hp} {h h' : Hq} {σ : MSt} {v : V} {d : D} {vs : List V} {ds ks ws : List D} {a : Addr} {Q : VK}
variable {X : Cx} {pins : List (Addr × Obj)} {s : Shared}
/-! ### dict comprehensions, keys ints or texts -/
def kD : Key → D
  | .inl i => .int i
  | .inr x => .str x
theorem kD_of {y : V} (r : VR G ι H y d) (f : flk d = true) : ∃ k, y = kV k ∧ d = kD k := by
  cases d <;> try (cases f; done)
  · exact ⟨.inl _, r.intD, rfl⟩
  · exact ⟨.inr _, r.strD, rfl⟩
theorem kD_inj (x y : Key) : decide (toK (kD x) = toK (kD y)) = decide (x = y) := by
  cases x <;> cases y <;> simp [kD, toK]
theorem keysD : ∀ {l : List (Key × V)}, VRs G ι H (l.map fun p => kV p.1) (l.map fun p => kD p.1)
  | [] => .nil
  | (.inl i, _) :: l => .cons (.int i) keysD
  | (.inr x, _) :: l => .cons (.str x) keysD
theorem any_keys (k : Key) : ∀ l : List (Key × V), (l.map fun p => kD p.1).any (fun q => decide (toK q = toK (kD k))) = l.any fun kv => decide (kv.1 = k)
  | [] => rfl
  | p :: l => by rw [List.map_cons, List.any_cons, List.any_cons, any_keys k l, kD_inj]
theorem put_zip {z : V} {w : D} (r : VR G ι H z w) (k : Key) : ∀ {l : List (Key × V)} {vs : List D}, VRs G ι H (l.map (·.2)) vs →
    VRs G ι H ((l.map fun kv => if kv.1 = k then (kv.1, z) else kv).map (·.2)) (List.zipWith (fun q w' => if toK q = toK (kD k) then w else w') (l.map fun p => kD p.1) vs)
  | [], _, .nil => .nil
  | (k', v') :: l, _, .cons q qs => by
    have e := kD_inj k' k
    refine .cons ?_ (put_zip r k qs)
    dsimp only
    by_cases hk : k' = k
    · have : toK (kD k') = toK (kD k) := of_decide_eq_true (by rw [e]; exact decide_eq_true hk)
      rw [if_pos hk, if_pos this]; exact r
    · have : ¬ toK (kD k') = toK (kD k) := of_decide_eq_false (by rw [e]; exact decide_eq_false hk)
      rw [if_neg hk, if_neg this]; exact q
theorem put_flat {l : List (Key × V)} {vs : List D} {z : V} {w : D} (k : Key) (r : VR G ι H z w) (q : VRs G ι H (l.map (·.2)) vs) :
    (dput (l.map fun p => kD p.1) vs (kD k) w).1 = (putK l k z).map (fun p => kD p.1) ∧ VRs G ι H ((putK l k z).map (·.2)) (dput (l.map fun p => kD p.1) vs (kD k) w).2 := by
  unfold dput putK
  rw [any_keys]
  by_cases e : (l.any fun kv => decide (kv.1 = k)) = true
  · rw [if_pos e, if_pos e]
    refine ⟨?_, put_zip r k q⟩
    rw [List.map_map]
    apply List.map_congr_left
    intro p _
    dsimp only [Function.comp]
    split <;> rfl
  · rw [if_neg e, if_neg e]
    refine ⟨by rw [List.map_append]; rfl, ?_⟩
    rw [List.map_append]
    exact q.append (.cons r .nil)
/-! ### keys that are tuples -/
/-- d[y] = z makes of the dict at D the object o -/
def PutG (G : Gx) (H : Hp) (D : Addr) (y z : V) (o : HO) : Prop :=
  ∀ (X : Cx) (pins : List (Addr × Obj)) (σ : MSt) (s : Shared) (u r : Value), X.K = G.K → X.prog = G.P → X.w = G.w → X.A.units + 64 < cLine → Inv X pins σ H s → RelV y u → RelV z r →
    ∀ (E : Value → Shared → Prop) (Qs : Unit → Shared → Prop), (∀ s', Inv X pins σ (upd H D o) s' → Qs () s') →
      wpAny (model X.prog X.w) X.A (dictSet D u r) Qs E s ∧ wpAny (model X.prog X.w) X.A (setItem (.ref D) u r) Qs E s
/-- d.setdefault(y, z), y not there, makes of the dict at D the object o -/
def PutS (G : Gx) (H : Hp) (D : Addr) (y z : V) (o : HO) : Prop :=
  ∀ (X : Cx) (pins : List (Addr × Obj)) (σ : MSt) (s : Shared) (u r : Value), X.K = G.K → X.prog = G.P → X.w = G.w → X.A.units + 64 < cLine → Inv X pins σ H s → RelV y u → RelV z r →
    ∀ (E : Value → Shared → Prop) (Q : Value → Shared → Prop), (∀ w' s', Inv X pins σ (upd H D o) s' → RelV z w' → Q w' s') → wpAny (model X.prog X.w) X.A (call (.builtin "dict.setdefault") [.ref D, u, r]) Q E s
/-- another value at an old key; one more entry -/
def putAX (k : PySem.NestedKey) (z : V) (x : PySem.NestedKey × Addr × V) : PySem.NestedKey × Addr × V := if x.1 = k then (x.1, x.2.1, z) else x
def putX (xs : KX) (k : PySem.NestedKey) (b : Addr) (z : V) : KX := if xs.any (fun x => decide (x.1 = k)) then xs.map (putAX k z) else xs ++ [(k, b, z)]
theorem any_toK (k : PySem.NestedKey) : ∀ {xs : KX} {ks : List D}, xs.map (·.1) = ks.map toK → (xs.any fun x => decide (x.1 = k)) = ks.any fun q => decide (toK q = k)
  | [], [], _ => rfl
  | x :: xs, q :: ks, e => by
    rw [List.map_cons, List.map_cons] at e
    injection e with e1 e2
    rw [List.any_cons, List.any_cons, any_toK k e2, e1]
  | [], _ :: _, e => by cases e
  | _ :: _, [], e => by cases e
theorem any_KXR (k : PySem.NestedKey) : ∀ {xs : KX} {ys : List (PySem.NestedKey × Addr × Value)}, KXR xs ys → (atKey ys k).isSome = xs.any fun x => decide (x.1 = k)
  | _, _, .nil => rfl
  | _, _, .cons (a := x) (b := y) r t => by
    have ih := any_KXR k t
    unfold atKey at ih ⊢
    rw [List.find?_cons, List.any_cons, r.1]
    by_cases e : y.1 = k
    · simp [e]
    · simp only [decide_eq_false e, Bool.false_or]; exact ih
theorem KXR.put {k : PySem.NestedKey} {b : Addr} {z : V} {r : Value} (rz : RelV z r) {xs : KX} {ys : List (PySem.NestedKey × Addr × Value)} (q : KXR xs ys) : KXR (putX xs k b z) (storedH ys k b r) := by
  unfold putX storedH
  rw [any_KXR k q]
  by_cases e : (xs.any fun x => decide (x.1 = k)) = true
  · rw [if_pos e, if_pos e]
    clear e
    induction q with
    | nil => exact .nil
    | cons r t ih =>
      refine .cons ?_ ih
      unfold putAX putAt
      rw [r.1]
      split
      · exact ⟨rfl, r.2.1, rz⟩
      · exact r
  · rw [if_neg e, if_neg e]
    induction q with
    | nil => exact .cons ⟨rfl, rfl, rz⟩ .nil
    | cons r t ih => exact .cons r (ih fun z => e (by rw [List.any_cons, z, Bool.or_true]))
theorem map_putAX (k : PySem.NestedKey) (z : V) (xs : KX) : (xs.map (putAX k z)).map (·.1) = xs.map (·.1) ∧ (xs.map (putAX k z)).map (fun x => V.ref x.2.1) = xs.map fun x => V.ref x.2.1 := by
  constructor <;> (rw [List.map_map]; apply List.map_congr_left; intro x _; unfold putAX Function.comp; dsimp only; split <;> rfl)
theorem zip_putAX {k : PySem.NestedKey} {z : V} {w : D} (q : VR G ι H z w) : ∀ {xs : KX} {ks ws : List D}, xs.map (·.1) = ks.map toK → VRs G ι H (xs.map (·.2.2)) ws →
    VRs G ι H ((xs.map (putAX k z)).map (·.2.2)) (List.zipWith (fun q w' => if toK q = k then w else w') ks ws)
  | [], ks, _, e, .nil => by
    cases ks with
    | nil => exact .nil
    | cons => cases e
  | x :: xs, [], _, e, _ => by cases e
  | x :: xs, q' :: ks, _, e, .cons q1 w1 => by
    rw [List.map_cons, List.map_cons] at e
    injection e with e1 e2
    refine .cons ?_ (zip_putAX q e2 w1)
    unfold putAX
    by_cases hk : x.1 = k
    · rw [if_pos hk]; dsimp only; rw [if_pos (by rw [← e1]; exact hk)]; exact q
    · rw [if_neg hk]; dsimp only; rw [if_neg (by rw [← e1]; exact hk)]; exact q1
theorem length_putX (xs : KX) (k : PySem.NestedKey) (b : Addr) (z : V) : (putX xs k b z).length ≤ xs.length + 1 := by
  unfold putX
  split
  · rw [List.length_map]; exact Nat.le_succ _
  · rw [List.length_append]; exact Nat.le_refl _
theorem flk_kD {k : Key} : flk (kD k) = true := by cases k <;> rfl
theorem tup_not_flk {d : D} (h : isTup d = true) : flk d = false := by cases d <;> first | rfl | cases h
theorem room8 (hu : X.A.units + 64 < cLine) : (nestedKind X.prog X.w).room X.A.in1 := by
  show X.A.in1.units + 8 < cLine
  have : X.A.in1.units = X.A.units + 1 := rfl
  omega
theorem room8' (hu : X.A.units + 64 < cLine) : (nestedKind X.prog X.w).room X.A := by
  show X.A.units + 8 < cLine
  omega
theorem flat_ks : ∀ {l : List (Key × V)} {ks : List D}, VRs G ι H (l.map fun p => kV p.1) ks → ks = l.map fun p => kD p.1
  | [], _, .nil => rfl
  | (.inl i, _) :: l, _, .cons r t => by cases r; rw [flat_ks t]; rfl
  | (.inr i, _) :: l, _, .cons r t => by cases r; rw [flat_ks t]; rfl
/-- d[y] = z -/
theorem put_all {o : HO} {kvs vvs : List V} {y z : V} {kd vd : D} (ho : H a = some o) (z0 : DO G a o kvs vvs ks) (q1 : VRs G ι H kvs ks) (q2 : VRs G ι H vvs ws) (ry : VR G ι H y kd) (rz : VR G ι H z vd) (kf : keyFit ks kd = true) (hl : ks.length < sizeLine) :
    ∃ o' kvs' vvs', (PutG G H a y z o' ∧ ((ks.any fun q => decide (toK q = toK kd)) = false → PutS G H a y z o')) ∧ DO G a o' kvs' vvs' (dput ks ws kd vd).1 ∧ VRs G ι H kvs' (dput ks ws kd vd).1 ∧ VRs G ι H vvs' (dput ks ws kd vd).2 := by
  have nested : ∀ (xs : KX), (∀ (X : Cx) pins σ s, X.K = G.K → X.prog = G.P → X.w = G.w → Inv X pins σ H s → (a == sysModules) = false ∧ ∃ ys, KXR xs ys ∧ s.heap.DictOfH (nestedKind X.prog X.w) a ys) → Mut (H a) →
      xs.map (·.1) = ks.map toK → xs.length = ks.length → VRs G ι H (xs.map fun x => V.ref x.2.1) ks → VRs G ι H (xs.map (·.2.2)) ws → ks.all (keyOk 8) = true → ks.all isTup = true → isTup kd = true → keyOk 8 kd = true →
      ∃ o' kvs' vvs', (PutG G H a y z o' ∧ ((ks.any fun q => decide (toK q = toK kd)) = false → PutS G H a y z o')) ∧ DO G a o' kvs' vvs' (dput ks ws kd vd).1 ∧ VRs G ι H kvs' (dput ks ws kd vd).1 ∧ VRs G ι H vvs' (dput ks ws kd vd).2 := by
    intro xs at_ mu e el k1 k2 k8 kt t1 t2
    obtain ⟨b, rfl⟩ := isTup_ref ry t1
    refine ⟨nkO G.P G.w a (putX xs (toK kd) b z), (putX xs (toK kd) b z).map fun x => V.ref x.2.1, (putX xs (toK kd) b z).map (·.2.2), ?_, ?_⟩
    · refine ⟨?_, ?_⟩
      rotate_left
      · intro nk X pins σ s u r hK hP hw hu I r1 r2 E Q hQ
        cases r1
        obtain ⟨hsys, ys, rel, dd⟩ := at_ X pins σ s hK hP hw I
        have key : (nestedKind X.prog X.w).is s.heap (toK kd) b := ⟨VR.nkey hK I ry t2 rfl, key_depth t2⟩
        have sz : ys.length ≤ sizeLine := by rw [← rel.len, el]; exact Nat.le_of_lt hl
        have an := any_KXR (toK kd) rel
        rw [any_toK (toK kd) e, nk] at an
        refine call_setdefault_heap (hsz := sz) (room8 hu) key hsys dd (fun p hp => by rw [hp] at an; cases an) fun _ h' m sb => hQ _ _ ?_ r2
        refine d_write I mu sb (let ⟨o, _, _, e, _⟩ := m; ⟨o, e⟩) ?_
        rw [← hP, ← hw]
        exact nk_ok hsys (rel.put r2) m
      intro X pins σ s u r hK hP hw hu I r1 r2 E Qs hQ
      cases r1
      obtain ⟨hsys, ys, rel, dd⟩ := at_ X pins σ s hK hP hw I
      have key : (nestedKind X.prog X.w).is s.heap (toK kd) b := ⟨VR.nkey hK I ry t2 rfl, key_depth t2⟩
      have sz : ys.length ≤ sizeLine := by rw [← rel.len, el]; exact Nat.le_of_lt hl
      have stp : ∀ h' t', h'.DictOfH (nestedKind X.prog X.w) a (storedH ys (toK kd) b r) → Heap.SameBut a s.heap h' → Inv X pins σ (upd H a (nkO G.P G.w a (putX xs (toK kd) b z))) { s with heap := h', toks := t' } := fun h' t' m sb => by
        refine d_write I mu sb (let ⟨o, _, _, e, _⟩ := m; ⟨o, e⟩) ?_
        rw [← hP, ← hw]
        exact nk_ok hsys (rel.put r2) m
      exact ⟨wpAny_dictSet_heap (hsz := sz) (room8' hu) key dd fun h' m sb => hQ _ (stp h' _ m sb), wpAny_setItem_heap (hsz := sz) (room8 hu) key dd fun h' m sb => hQ _ (stp h' _ m sb)⟩
    · unfold dput putX
      rw [any_toK (toK kd) e]
      by_cases c : (ks.any fun q => decide (toK q = toK kd)) = true
      · rw [if_pos c, if_pos c]
        obtain ⟨m1, m2⟩ := map_putAX (toK kd) z xs
        refine ⟨.nest _ (by rw [List.length_map, el]; exact Nat.le_of_lt hl) (fun z => by dsimp only at z; subst z; cases c) (by rw [m1]; exact e) k8 kt, by rw [m2]; exact k1, zip_putAX rz e k2⟩
      · rw [if_neg c, if_neg c]
        refine ⟨.nest _ (by rw [List.length_append, el]; exact hl) (by simp) (by rw [List.map_append, List.map_append, e]; rfl) ?_ ?_, ?_, ?_⟩
        · rw [List.all_append, k8]; simp [t2]
        · rw [List.all_append, kt]; simp [t1]
        · rw [List.map_append]; exact k1.append (.cons ry .nil)
        · rw [List.map_append]; exact k2.append (.cons rz .nil)
  cases z0 with
  | flat l =>
    have ll : l.length = ks.length := by have := q1.length; rw [List.length_map] at this; exact this
    unfold keyFit at kf
    rcases Bool.or_eq_true_iff.mp kf with kf | kf
    · rw [Bool.and_eq_true] at kf
      obtain ⟨k, rfl, rfl⟩ := kD_of ry kf.1
      have ek : ks = l.map fun p => kD p.1 := flat_ks q1
      subst ek
      obtain ⟨p1, p2⟩ := put_flat k rz q2
      refine ⟨.dK (putK l k z), (putK l k z).map fun p => kV p.1, (putK l k z).map (·.2), ?_, ?_⟩
      · refine ⟨?_, ?_⟩
        rotate_left
        · intro nk X pins σ s u r hK hP hw hu I r1 r2 E Q hQ
          rw [any_keys k l] at nk
          refine d_setd I ho r1 r2 (by rw [ll]; exact hl) (fun v hv => ?_) fun hn w' s' I' rw' => hQ w' s' I' rw'
          exfalso
          rw [valV_any, hv] at nk
          cases nk
        intro X pins σ s u r hK hP hw hu I r1 r2 E Qs hQ
        refine ⟨d_dictSet I ho (by rw [ll]; exact hl) r1 r2 hQ, d_setItem (H' := upd H a (.dK (putK l k z))) (by omega) I (DPut.k ho (by rw [ll]; exact hl)) r1 r2 hQ⟩
      · rw [p1]
        exact ⟨.flat _, keysD, p2⟩
    · simp only [Bool.and_eq_true] at kf
      have kn : ks = [] := by
        cases l with
        | nil => cases q1; rfl
        | cons p l =>
          rw [List.map_cons] at q1
          cases q1 with
          | cons r t =>
            obtain ⟨p1, p2⟩ := p
            have := kf.2
            rw [List.all_cons] at this
            cases p1 <;> cases r <;> simp [isTup] at this
      subst kn
      have ln : l = [] := List.length_eq_zero_iff.mp ll
      subst ln
      cases q2
      refine nested [] (fun X pins σ s hK hP hw I => ⟨(dk_of I.hok ho).2.1, [], .nil, ?_⟩) (by rw [ho]; exact True.intro) rfl rfl .nil .nil rfl rfl kf.1.1 kf.1.2
      obtain ⟨_, _, vs, rel, dd⟩ := dk_of I.hok ho
      cases rel
      exact nk_nil dd
  | nest xs z1 z2 z3 z4 z5 =>
    have ll : xs.length = ks.length := by have := q1.length; rw [List.length_map] at this; exact this
    unfold keyFit at kf
    have ti : isTup kd = true ∧ keyOk 8 kd = true := by
      rcases Bool.or_eq_true_iff.mp kf with kf | kf
      · rw [Bool.and_eq_true] at kf
        cases ks with
        | nil => exact (z2 rfl).elim
        | cons k ks =>
          have h1 := kf.2
          rw [List.all_cons, Bool.and_eq_true] at h1 z5
          rw [tup_not_flk z5.1] at h1
          cases h1.1
      · simp only [Bool.and_eq_true] at kf; exact kf.1
    exact nested xs (fun X pins σ s hK hP hw I => nk_at hK hP hw I ho q1 z3 z4) (by rw [ho]; exact True.intro) z3 ll q1 q2 z4 z5 ti.1 ti.2

/-- d[y] = z -/
theorem put_ok {o : HO} {kvs vvs : List V} {y z : V} {kd vd : D} (ho : H a = some o) (z0 : DO G a o kvs vvs ks) (q1 : VRs G ι H kvs ks) (q2 : VRs G ι H vvs ws) (ry : VR G ι H y kd) (rz : VR G ι H z vd) (kf : keyFit ks kd = true) (hl : ks.length < sizeLine) :
    ∃ o' kvs' vvs', PutG G H a y z o' ∧ DO G a o' kvs' vvs' (dput ks ws kd vd).1 ∧ VRs G ι H kvs' (dput ks ws kd vd).1 ∧ VRs G ι H vvs' (dput ks ws kd vd).2 := by
  obtain ⟨o', kvs', vvs', p, q⟩ := put_all ho z0 q1 q2 ry rz kf hl
  exact ⟨o', kvs', vvs', p.1, q⟩
end Rx

/-! RxV: what a dict tells of a key, keys of all kinds . -/
namespace Rx
open PySem L2
variable {G : Gx} {W : WX} {ι : List Addr} {H : Hp} {h : Hq} {vs : List V} {ds ks ws : List D} {a : Addr}
variable {X : Cx} {pins : List (Addr × Obj)} {s : Shared}
/-- d tells r at y -/
def GetG (G : Gx) (H : Hp) (D : Addr) (y : V) (r : Option V) (lt : Prop) : Prop :=
  ∀ (X : Cx) (pins : List (Addr × Obj)) (σ : MSt) (s : Shared) (u : Value), X.K = G.K → X.prog = G.P → X.w = G.w → X.A.units + 64 < cLine → Inv X pins σ H s → RelV y u → ∀ (E : Value → Shared → Prop) (Q : Value → Shared → Prop),
    ((∀ s', Inv X pins σ H s' → Q (.bool r.isSome) s') → wpAny (model X.prog X.w) X.A (compareOp .In u (.ref D)) Q E s) ∧
    ((∀ s', Inv X pins σ H s' → Q (.bool (!r.isSome)) s') → wpAny (model X.prog X.w) X.A (compareOp .NotIn u (.ref D)) Q E s) ∧
    (∀ v, r = some v → (∀ w' s', Inv X pins σ H s' → RelV v w' → Q w' s') → wpAny (model X.prog X.w) X.A (getItem (.ref D) u) Q E s) ∧
    ((∀ w' s', Inv X pins σ H s' → RelV (r.getD .non) w' → Q w' s') → wpAny (model X.prog X.w) X.A (call (.builtin "dict.get") [.ref D, u]) Q E s) ∧
    (∀ z zu, RelV z zu → (∀ w' s', Inv X pins σ H s' → RelV (r.getD z) w' → Q w' s') → wpAny (model X.prog X.w) X.A (call (.builtin "dict.get") [.ref D, u, zu]) Q E s) ∧
    (∀ v, lt → r = some v → ∀ z zu, RelV z zu → (∀ w' s', Inv X pins σ H s' → RelV v w' → Q w' s') → wpAny (model X.prog X.w) X.A (call (.builtin "dict.setdefault") [.ref D, u, zu]) Q E s) ∧
    s.TypeIs (.ref D) "dict" ∧ (∀ b, Value.ref D = .ref b → ∃ ob, s.heap.get? b = some ob ∧ ob.dict = none)
/-- what is told is the value of the pure language -/
def Tells (G : Gx) (ι : List Addr) (H : Hp) (r : Option V) : Option D → Prop
  | none => r = none
  | some d => ∃ v, r = some v ∧ VR G ι H v d
def vget (xs : KX) (k : PySem.NestedKey) : Option V := (xs.find? fun x => decide (x.1 = k)).map (·.2.2)
theorem vget_rel (k : PySem.NestedKey) : ∀ {xs : KX} {ys : List (PySem.NestedKey × Addr × Value)}, KXR xs ys → RelO (vget xs k) ((atKey ys k).map (·.2))
  | _, _, .nil => True.intro
  | _, _, .cons (a := x) (b := y) r t => by
    have ih := vget_rel k t
    unfold vget atKey at ih ⊢
    rw [List.find?_cons, List.find?_cons, r.1]
    by_cases e : y.1 = k
    · rw [decide_eq_true e]; exact r.2.2
    · rw [decide_eq_false e]; exact ih
theorem vget_tells (kd : D) : ∀ {xs : KX} {ks ws : List D}, xs.map (·.1) = ks.map toK → VRs G ι H (xs.map (·.2.2)) ws → Tells G ι H (vget xs (toK kd)) (dgetK ks ws kd)
  | [], [], _, _, .nil => rfl
  | [], _ :: _, _, e, _ => by cases e
  | _ :: _, [], _, e, _ => by cases e
  | x :: xs, q :: ks, _, e, .cons (d := d) q1 w1 => by
    rw [List.map_cons, List.map_cons] at e
    injection e with e1 e2
    have ih := vget_tells kd e2 w1
    unfold vget at ih ⊢
    unfold dgetK
    rw [List.find?_cons]
    by_cases hk : x.1 = toK kd
    · rw [decide_eq_true hk, if_pos (by rw [← e1]; exact hk)]
      exact ⟨_, rfl, q1⟩
    · rw [decide_eq_false hk, if_neg (by rw [← e1]; exact hk)]
      exact ih
theorem flat_tells (k : Key) : ∀ {l : List (Key × V)} {ws : List D}, VRs G ι H (l.map (·.2)) ws → Tells G ι H (valV l k) (dgetK (l.map fun p => kD p.1) ws (kD k))
  | [], _, .nil => rfl
  | p :: l, _, .cons q1 w1 => by
    have ih := flat_tells k w1
    rw [List.map_cons]
    unfold dgetK
    have ee := kD_inj p.1 k
    by_cases hk : p.1 = k
    · rw [valV_pos hk, if_pos (by rw [decide_eq_true hk] at ee; exact of_decide_eq_true ee)]
      exact ⟨_, rfl, q1⟩
    · rw [valV_neg hk, if_neg (by rw [decide_eq_false hk] at ee; exact of_decide_eq_false ee)]
      exact ih
/-- d at y, for a key that d may have -/
theorem get_ok {o : HO} {kvs vvs : List V} {y : V} {kd : D} (ho : H a = some o) (z0 : DO G a o kvs vvs ks) (q1 : VRs G ι H kvs ks) (q2 : VRs G ι H vvs ws) (ry : VR G ι H y kd) (kf : keyFit ks kd = true) :
    ∃ r, GetG G H a y r (ks.length < sizeLine) ∧ Tells G ι H r (dgetK ks ws kd) := by
  have nested : ∀ (xs : KX), (∀ (X : Cx) pins σ s, X.K = G.K → X.prog = G.P → X.w = G.w → Inv X pins σ H s → (a == sysModules) = false ∧ ∃ ys, KXR xs ys ∧ s.heap.DictOfH (nestedKind X.prog X.w) a ys) →
      xs.map (·.1) = ks.map toK → VRs G ι H (xs.map (·.2.2)) ws → isTup kd = true → keyOk 8 kd = true → ∃ r, GetG G H a y r (ks.length < sizeLine) ∧ Tells G ι H r (dgetK ks ws kd) := by
    intro xs at_ e k2 t1 t2
    have e_ := e
    obtain ⟨b, rfl⟩ := isTup_ref ry t1
    refine ⟨vget xs (toK kd), ?_, vget_tells kd e k2⟩
    intro X pins σ s u hK hP hw hu I r1 E Q
    cases r1
    obtain ⟨hsys, ys, rel, dd⟩ := at_ X pins σ s hK hP hw I
    have key : (nestedKind X.prog X.w).is s.heap (toK kd) b := ⟨VR.nkey hK I ry t2 rfl, key_depth t2⟩
    have dk : s.heap.DictKeyed (nestedKind X.prog X.w) a (pairsH ys) := ⟨ys, dd, rfl⟩
    have ro := vget_rel (toK kd) rel
    have vp : valueAt (pairsH ys) (toK kd) = (atKey ys (toK kd)).map (·.2) := valueAt_pairsH ys _
    have stp : ∀ tk, Inv X pins σ H { s with toks := tk } := fun tk => I.kept (t' := tk) fun b o e => e
    refine ⟨fun q => in_keyed (room8 hu) key hsys dk ?_, fun q => notIn_keyed (room8 hu) key hsys dk ?_, fun v hv q => ?_, fun q => get_keyed (room8 hu) key hsys dk ?_, fun z zu rz q => getOr_keyed (room8 hu) key hsys dk ?_, fun v hl hv z zu rz q => ?_, dd.typeIs, fun b e => ?_⟩
    · rw [vp, ← ro.isSome_eq]; exact q _ (stp _)
    · rw [vp, ← ro.isSome_eq]; exact q _ (stp _)
    · rw [hv] at ro
      obtain ⟨w', e1, e2⟩ := ro.some_of
      exact getItem_keyed (room8 hu) key dk (vp.trans e1) (q _ _ (stp _) e2)
    · rw [vp]
      refine q _ _ (stp _) ?_
      cases er : vget xs (toK kd) with
      | none => rw [er] at ro; rw [ro.none_of]; exact rfl
      | some v =>
        rw [er] at ro
        obtain ⟨w', e1, e2⟩ := ro.some_of
        rw [e1]; exact e2
    · rw [vp]
      refine q _ _ (stp _) ?_
      cases er : vget xs (toK kd) with
      | none => rw [er] at ro; rw [ro.none_of]; exact rz
      | some v =>
        rw [er] at ro
        obtain ⟨w', e1, e2⟩ := ro.some_of
        rw [e1]; exact e2
    · rw [hv] at ro
      obtain ⟨w', e1, e2⟩ := ro.some_of
      refine setdefault_keyed (hsz := by rw [pairsH_length, ← rel.len, ← List.length_map (·.1), e_, List.length_map]; exact Nat.le_of_lt hl) (room8 hu) key hsys dk (fun v2 hv2 => ?_) fun hn => ?_
      · rw [vp, e1] at hv2
        cases hv2
        exact q _ _ (stp _) e2
      · rw [vp, e1] at hn; cases hn
    · cases e
      obtain ⟨ob, _, _, h1, h2, _⟩ := dd
      exact ⟨ob, h1, h2.2.1⟩
  cases z0 with
  | flat l =>
    have ll : l.length = ks.length := by have := q1.length; rw [List.length_map] at this; exact this
    unfold keyFit at kf
    rcases Bool.or_eq_true_iff.mp kf with kf | kf
    · rw [Bool.and_eq_true] at kf
      obtain ⟨k, rfl, rfl⟩ := kD_of ry kf.1
      have ek : ks = l.map fun p => kD p.1 := flat_ks q1
      subst ek
      refine ⟨valV l k, ?_, flat_tells k q2⟩
      intro X pins σ s u hK hP hw hu I r1 E Q
      have g : DGet H a (kV k) (valV l k) := .k ho
      have u1 : X.A.units + 1 < cLine := by omega
      exact ⟨fun q => d_in u1 I g r1 q, fun q => d_notIn u1 I g r1 q, fun v hv q => d_getItem u1 I (hv ▸ g) r1 q, fun q => d_get1 u1 I g r1 q, fun z zu rz q => d_get2 u1 I g r1 rz q, fun v hl hv z zu rz q => d_setd I ho r1 rz (by rw [ll]; exact hl) (fun v2 hv2 w' s' I' rw' => q w' s' I' (by rw [hv] at hv2; cases hv2; exact rw')) (fun hn => by rw [hv] at hn; cases hn), dict_typeIs I g, dict_noDict I g⟩
    · simp only [Bool.and_eq_true] at kf
      have kn : ks = [] := by
        cases l with
        | nil => cases q1; rfl
        | cons p l =>
          rw [List.map_cons] at q1
          cases q1 with
          | cons r t =>
            obtain ⟨p1, p2⟩ := p
            have := kf.2
            rw [List.all_cons] at this
            cases p1 <;> cases r <;> simp [isTup] at this
      subst kn
      have ln : l = [] := List.length_eq_zero_iff.mp ll
      subst ln
      cases q2
      refine nested [] (fun X pins σ s hK hP hw I => ⟨(dk_of I.hok ho).2.1, [], .nil, ?_⟩) rfl .nil kf.1.1 kf.1.2
      obtain ⟨_, _, vs, rel, dd⟩ := dk_of I.hok ho
      cases rel
      exact nk_nil dd
  | nest xs z1 z2 z3 z4 z5 =>
    unfold keyFit at kf
    have ti : isTup kd = true ∧ keyOk 8 kd = true := by
      rcases Bool.or_eq_true_iff.mp kf with kf | kf
      · rw [Bool.and_eq_true] at kf
        cases ks with
        | nil => exact (z2 rfl).elim
        | cons k ks =>
          have h1 := kf.2
          rw [List.all_cons, Bool.and_eq_true] at h1 z5
          rw [tup_not_flk z5.1] at h1
          cases h1.1
      · simp only [Bool.and_eq_true] at kf; exact kf.1
    exact nested xs (fun X pins σ s hK hP hw I => nk_at hK hP hw I ho q1 z3 z4) z3 q2 ti.1 ti.2
end Rx

/-! RxC: operators, subscripts, comparisons of the model do what the pure ones say. -/
namespace Rx
open PySem L2
variable {G : Gx} {W : WX} {ι ι' : List Addr} {H H' : Hp} {h h' : Hq} {ρ : Ev} {σ : MSt} {v : V} {d : D} {vs : List V} {ds xs : List D} {a : Addr} {Q : VK}
def rB2 (G : Gx) (W : WX) (f : Hq → D → D → R D) : R2 := fun x y H Q => ∃ ι h d1 d2 σ, HR G ι h H ∧ VR G ι H x d1 ∧ VR G ι H y d2 ∧ FinV G W ι H σ (f h d1 d2) Q

/-- which of the model's operators -/
def opOf : Op2 → Operator
  | .add => .Add | .sub => .Sub | .mul => .Mult | .fdiv => .FloorDiv | .mod => .Mod | .pow => .Pow
def cmpOf : Cmp → CmpOp
  | .eq => .Eq | .ne => .NotEq | .lt => .Lt | .le => .LtE | .gt => .Gt | .ge => .GtE | .is_ => .Is | .isnot => .IsNot | .in_ => .In | .notin => .NotIn

variable {X : Cx}
theorem VRs.rep (q : VRs G ι H vs ds) : ∀ k : Nat, VRs G ι H (List.replicate k vs).flatten (List.replicate k ds).flatten
  | 0 => .nil
  | k + 1 => by
    rw [List.replicate_succ, List.replicate_succ, List.flatten_cons, List.flatten_cons]
    exact q.append (q.rep k)
theorem fits_le {n : Nat} (h : fits n = true) : n ≤ sizeLine := of_decide_eq_true h
theorem big_or {i j : Int} (h : (big i || big j) = true) : CMul i j := by
  unfold big at h
  simp only [Bool.or_eq_true, Bool.and_eq_true, decide_eq_true_eq] at h
  exact h
theorem op_bin (hK : X.K = G.K) (o : Op2) : OpR X (binaryOp (opOf o)) (rB2 G W fun h a b => R.of (binD h o a b) h) := by
  intro pins s σ0 H x y v u Q I rx ry hq
  obtain ⟨ι, h, d1, d2, σ, r, q1, q2, f⟩ := hq
  dsimp only at f
  cases e : binD h o d1 d2 with
  | none => rw [e] at f; exact f.elim
  | some d =>
    rw [e] at f
    unfold binD at e
    split at e
    · cases e; cases q1; cases q2
      exact op_add pins s σ0 H _ _ v u Q I rx ry ⟨_, _, rfl, rfl, fin_same f r (.int _)⟩
    · cases e; cases q1; cases q2
      exact op_sub pins s σ0 H _ _ v u Q I rx ry ⟨_, _, rfl, rfl, fin_same f r (.int _)⟩
    · split at e
      · rename_i hb
        cases e; cases q1; cases q2
        exact op_mul pins s σ0 H _ _ v u Q I rx ry ⟨_, _, rfl, rfl, big_or hb, fin_same f r (.int _)⟩
      · cases e
    · split at e
      · rename_i hb
        cases e; cases q1; cases q2
        exact op_fdiv pins s σ0 H _ _ v u Q I rx ry ⟨_, _, rfl, rfl, hb, fin_same f r (.int _)⟩
      · cases e
    · split at e
      · rename_i hb
        cases e; cases q1; cases q2
        exact op_mod pins s σ0 H _ _ v u Q I rx ry ⟨_, _, rfl, rfl, hb, fin_same f r (.int _)⟩
      · cases e
    · split at e
      · rename_i hb
        cases e; cases q1; cases q2
        exact op_pow pins s σ0 H _ _ v u Q I rx ry ⟨_, _, rfl, rfl, hb, fin_same f r (.int _)⟩
      · cases e
    · split at e
      · rename_i hb
        cases e; cases q1; cases q2
        exact op_add_str pins s σ0 H _ _ v u Q I rx ry ⟨_, _, rfl, rfl, fits_le hb, fin_same f r (.str _)⟩
      · cases e
    · split at e
      · rename_i a b hb
        cases e
        cases q2
        cases q1 with
        | tup t1 t2 =>
          have ⟨h1, h2, h3, h4⟩ := hb
          rename_i vs
          have ne : vs ≠ [] := fun e => by subst e; cases t2; exact h1 rfl
          by_cases h5 : 2 ≤ b
          · exact op_repT pins s σ0 H _ _ v u Q I rx ry ⟨_, _, _, rfl, rfl, by rw [hK]; exact t1.sq, ne, h5, h3, by rw [t2.length]; exact h4, fun p np => fin_tup f r (t2.rep _) np⟩
          · refine op_rep01 pins s σ0 H _ _ v u Q I rx ry ⟨_, _, _, rfl, rfl, by rw [hK]; exact t1.sq, ne, ?_⟩
            rcases (show b = 1 ∨ b = 0 by omega) with rfl | rfl
            · refine .inl ⟨rfl, fin_same f r (.tup t1 ?_)⟩
              show VRs G ι H vs (a ++ [])
              rw [List.append_nil]; exact t2
            · exact .inr ⟨rfl, fun p np => fin_tup f r .nil np⟩
      · cases e
    · split at e
      · rename_i ex ey
        split at e
        · rename_i hf
          cases e
          obtain ⟨a1, v1, rfl, t1, w1⟩ := viewM_tup r q1 ex
          obtain ⟨a2, v2, rfl, t2, w2⟩ := viewM_tup r q2 ey
          refine op_catA pins s σ0 H _ _ v u Q I rx ry ⟨_, _, _, _, rfl, rfl, by rw [hK]; exact t1.sq, by rw [hK]; exact t2.sq, by rw [w1.length, w2.length]; exact fits_le hf, fun e => ?_, fun _ e => ?_, fun _ _ p np => fin_tup f r (w1.append w2) np⟩
          · subst e; cases w1
            exact fin_same f r (.tup t2 w2)
          · subst e; cases w2
            rw [List.append_nil] at f
            exact fin_same f r (.tup t1 w1)
        · cases e
      · rename_i ex ey
        split at e
        · rename_i hf
          cases e
          obtain ⟨a1, v1, rfl, t1, w1⟩ := viewM_lst r q1 ex
          obtain ⟨a2, v2, rfl, t2, w2⟩ := viewM_lst r q2 ey
          exact op_cat pins s σ0 H _ _ v u Q I rx ry ⟨_, _, _, _, rfl, rfl, t1, t2, by rw [w1.length, w2.length]; exact fits_le hf, fun p np => fin_lst f r (w1.append w2) np⟩
        · cases e
      · cases e
    · cases e

/-! ### == .. in -/
mutual
theorem VR.dp : ∀ {n : Nat} {d : D} {v : V}, VR G ι H v d → plain n d = true → Dp G.K H v (toP d)
  | _, .non, _, q, _ => by cases q; exact .non
  | _, .bl b, _, q, _ => by cases q; exact .bl b
  | _, .int i, _, q, _ => by cases q; exact .int i
  | _, .str x, _, q, _ => by cases q; exact .str x
  | 0, .tup xs, _, q, p => by simp [plain] at p
  | n + 1, .tup xs, _, q, p => by
    cases q with
    | tup t w => exact .tup t.sq (VRs.dp w (by simpa [plain] using p))
  | 0, .lst xs, _, q, p => by simp [plain] at p
  | n + 1, .lst xs, _, q, p => by
    cases q with
    | lst n t w => exact .lst (.inl (.inl t)) (VRs.dp w (by simpa [plain] using p))
  | 0, .slst xs, _, q, p => by simp [plain] at p
  | n + 1, .slst xs, _, q, p => by
    cases q with
    | slst t w => exact .lst t.sq (VRs.dp w (by simpa [plain] using p))
  | 0, .dct _ _, _, _, p => by simp [plain] at p
  | n + 1, .dct _ _, _, _, p => by simp [plain] at p
  | 0, .ref _, _, _, p => by simp [plain] at p
  | n + 1, .ref _, _, _, p => by simp [plain] at p
  | 0, .clo _ _, _, _, p => by simp [plain] at p
  | 0, .hole, _, _, p => by simp [plain] at p
  | n + 1, .hole, _, _, p => by simp [plain] at p
  | n + 1, .clo _ _, _, _, p => by simp [plain] at p
theorem VRs.dp : ∀ {n : Nat} {ds : List D} {vs : List V}, VRs G ι H vs ds → (∀ x ∈ ds, plain n x = true) → DpAll G.K H vs (toPs ds)
  | _, [], _, q, _ => by cases q; exact .nil
  | n, d :: ds, _, q, p => by
    cases q with
    | cons q qs => exact .cons (VR.dp q (p d (by simp))) (VRs.dp qs fun x hx => p x (by simp [hx]))
end
mutual
theorem plain_lay : ∀ {n : Nat} {d : D}, plain n d = true → (toP d).canLay0 = true ∧ (toP d).depth ≤ n
  | _, .non, _ => by simp [toP, PyData.canLay0, PyData.depth]
  | _, .bl b, _ => by simp [toP, PyData.canLay0, PyData.depth]
  | _, .int i, _ => by simp [toP, PyData.canLay0, PyData.depth]
  | _, .str x, p => by
    have : PyData.strOk x = true := by simpa [plain] using p
    simp [toP, PyData.canLay0, PyData.depth, this]
  | 0, .tup xs, p => by simp [plain] at p
  | n + 1, .tup xs, p => by
    have := plains_lay (n := n) (ds := xs) (by simpa [plain] using p)
    simp [toP, PyData.canLay0, PyData.depth, this.1, this.2]
  | 0, .lst xs, p => by simp [plain] at p
  | n + 1, .lst xs, p => by
    have := plains_lay (n := n) (ds := xs) (by simpa [plain] using p)
    simp [toP, PyData.canLay0, PyData.depth, this.1, this.2]
  | 0, .slst xs, p => by simp [plain] at p
  | n + 1, .slst xs, p => by
    have := plains_lay (n := n) (ds := xs) (by simpa [plain] using p)
    simp [toP, PyData.canLay0, PyData.depth, this.1, this.2]
  | 0, .dct _ _, p => by simp [plain] at p
  | n + 1, .dct _ _, p => by simp [plain] at p
  | 0, .ref _, p => by simp [plain] at p
  | n + 1, .ref _, p => by simp [plain] at p
  | 0, .clo _ _, p => by simp [plain] at p
  | 0, .hole, p => by simp [plain] at p
  | n + 1, .hole, p => by simp [plain] at p
  | n + 1, .clo _ _, p => by simp [plain] at p
theorem plains_lay : ∀ {n : Nat} {ds : List D}, (∀ x ∈ ds, plain n x = true) → PyData.canLayAll0 (toPs ds) = true ∧ PyData.depthAll (toPs ds) ≤ n
  | _, [], _ => by simp [toPs, PyData.canLayAll0, PyData.depthAll]
  | n, d :: ds, p => by
    have h1 := plain_lay (p d (by simp))
    have h2 := plains_lay (n := n) (ds := ds) fun x hx => p x (by simp [hx])
    simp only [toPs, PyData.canLayAll0, PyData.depthAll, h1.1, h2.1, Bool.and_self, true_and]
    omega
end
theorem plain_shaped (p : plain 60 d = true) : SeqAt.shaped (toP d) = true := by
  obtain ⟨h1, h2⟩ := plain_lay p
  show ((toP d).canLay0 && decide ((toP d).depth ≤ 64)) = true
  rw [h1, Bool.true_and, decide_eq_true_eq]
  omega
/-- what is seen of a value, as data -/
theorem view_dp (r : HR G ι h H) (q : VR G ι H v d) (p : plain 60 (view h d) = true) : Dp G.K H v (toP (view h d)) := by
  cases e : view h d with
  | non => rw [view_non q e]; exact .non
  | bl b => rw [view_bl q e]; exact .bl b
  | int i => rw [view_int q e]; exact .int i
  | str x => rw [view_str q e]; exact .str x
  | tup xs =>
    rw [e] at p
    obtain ⟨a, vs, rfl, t, w⟩ := view_tup r q e
    exact .tup t.sq (w.dp (n := 59) (by simpa [plain] using p))
  | lst xs =>
    rw [e] at p
    obtain ⟨a, vs, rfl, t, w⟩ := view_lst r q e
    exact .lst t (w.dp (n := 59) (by simpa [plain] using p))
  | dct _ _ => rw [e] at p; simp [plain] at p
  | ref _ => rw [e] at p; simp [plain] at p
  | clo _ _ => rw [e] at p; simp [plain] at p
  | hole => rw [e] at p; simp [plain] at p
  | slst _ =>
    exfalso
    cases d <;> first | cases e | skip
    unfold view at e; split at e <;> (try (split at e)) <;> cases e
theorem scal_str {x y : Str} : L2.scal (.str x) (.str y) = true := by rfl
theorem dec_V_str (x y : Str) : decide (V.str x = V.str y) = decide (x = y) := by
  by_cases e : x = y
  · subst e; simp
  · rw [decide_eq_false e, decide_eq_false (fun q => e (V.str.inj q))]
theorem eq_split {b : Bool} {d1 d2 : D} (e : eqD h d1 d2 = some b) : (∃ x y, view h d1 = .str x ∧ view h d2 = .str y ∧ b = decide (x = y)) ∨
    (plain 60 (view h d1) = true ∧ plain 60 (view h d2) = true ∧ b = eqv (view h d1) (view h d2)) := by
  unfold eqD at e
  split at e
  · rename_i e1 e2; cases e; exact .inl ⟨_, _, e1, e2, rfl⟩
  · split at e
    · rename_i hp
      cases e
      rw [Bool.and_eq_true] at hp
      exact .inr ⟨hp.1, hp.2, rfl⟩
    · cases e
theorem any_toPs (d : PyData) : ∀ xs : List D, (toPs xs).any (fun z => PyData.eqv z d) = xs.any fun x => PyData.eqv (toP x) d
  | [] => rfl
  | x :: xs => by simp only [toPs, List.any_cons, any_toPs d xs]
theorem view_plain_in {n : Nat} (p : ∀ x ∈ xs, plain n x = true) : PyData.canLayAll0 (toPs xs) = true := (plains_lay p).1
structure RoomG (k : Nat) (X : Cx) : Prop where
  rm : Room (k + 2) X.A
  gd : X.A.guards = some []
theorem RoomG.u64 {k : Nat} (r : RoomG k X) : X.A.units + 64 < cLine := by have := r.rm.un; omega
theorem RoomG.u65 {k : Nat} (r : RoomG k X) : X.A.units + 65 < cLine := by have := r.rm.un; omega
/-- x in t, t a tuple -/
theorem op_inT {k : Nat} (hK : X.K = G.K) (rm : RoomG k X) {neg : Bool} : OpR X (compareOp (if neg then .NotIn else .In)) (fun x y H Q => ∃ d ds, Dp G.K H x d ∧ Dp G.K H y (.tuple ds) ∧ SeqAt.shaped d = true ∧ SeqAt.shaped (.tuple ds) = true ∧
    Q (.bl (if neg then !(ds.any fun z => PyData.eqv z d) else ds.any fun z => PyData.eqv z d)) H) := by
  intro pins s σ0 H x y v u Q I rx ry h
  obtain ⟨d, ds, hd, he, sd, se, q⟩ := h
  rw [← hK] at hd he
  obtain ⟨as, r1⟩ := Dp.reads I d x v hd rx
  obtain ⟨bs, r2⟩ := Dp.reads I (.tuple ds) y u he ry
  cases neg with
  | false => exact SeqAt.in_tuple_reads r2 r1 (SeqAt.canLay_of_shaped se) (SeqAt.canLay_of_shaped sd) (PyProof.Rows.room_in_shaped sd rm.u65) ⟨.bl _, H, I, rfl, q⟩
  | true => exact SeqAt.notIn_tuple_reads r2 r1 (SeqAt.canLay_of_shaped se) (SeqAt.canLay_of_shaped sd) (PyProof.Rows.room_in_shaped sd rm.u65) ⟨.bl _, H, I, rfl, q⟩
theorem shaped_seq {ds : List PyData} (hl : PyData.canLayAll0 ds = true) (hd : PyData.depthAll ds ≤ 60) : SeqAt.shaped (.tuple ds) = true ∧ SeqAt.shaped (.list ds) = true := by
  refine ⟨?_, ?_⟩
  · show ((PyData.tuple ds).canLay0 && decide ((PyData.tuple ds).depth ≤ 64)) = true
    simp only [PyData.canLay0, PyData.depth, hl, Bool.true_and]
    exact decide_eq_true (by omega)
  · show ((PyData.list ds).canLay0 && decide ((PyData.list ds).depth ≤ 64)) = true
    simp only [PyData.canLay0, PyData.depth, hl, Bool.true_and]
    exact decide_eq_true (by omega)
theorem op_cmpEq (hK : X.K = G.K) (u64 : X.A.units + 64 < cLine) {neg : Bool} : OpR X (compareOp (if neg then .NotEq else .Eq)) (rB2 G W fun h a b => R.of ((eqD h a b).map fun t => .bl (if neg then !t else t)) h) := by
  intro pins s σ0 H x y v u Q I rx ry hq
  obtain ⟨ι, h, d1, d2, σ, r, q1, q2, f⟩ := hq
  dsimp only at f
  cases e : eqD h d1 d2 with
  | none => rw [e] at f; exact f.elim
  | some b =>
    rw [e] at f
    rcases eq_split e with ⟨a, c, e1, e2, eb⟩ | ⟨p1, p2, eb⟩
    · have h1 := view_str q1 e1
      have h2 := view_str q2 e2
      subst h1 h2
      have fq := fin_same f r (VR.bl _)
      rw [eb] at fq
      cases neg with
      | false =>
        refine op_eq pins s σ0 H _ _ v u Q I rx ry ⟨rfl, ?_⟩
        rw [dec_V_str]
        exact fq
      | true =>
        refine op_ne pins s σ0 H _ _ v u Q I rx ry ⟨rfl, ?_⟩
        rw [dec_V_str]
        exact fq
    · have g1 := view_dp r q1 p1
      have g2 := view_dp r q2 p2
      have fq := fin_same f r (VR.bl _)
      rw [eb] at fq
      rw [← hK] at g1 g2
      cases neg with
      | false => exact op_eqD u64 pins s σ0 H _ _ v u Q I rx ry ⟨_, _, g1, g2, plain_shaped p1, plain_shaped p2, fq⟩
      | true => exact op_neD u64 pins s σ0 H _ _ v u Q I rx ry ⟨_, _, g1, g2, plain_shaped p1, plain_shaped p2, fq⟩
theorem op_cmpIn {k : Nat} (hK : X.K = G.K) (hP : X.prog = G.P) (hw : X.w = G.w) (rm : RoomG k X) {neg : Bool} : OpR X (compareOp (if neg then .NotIn else .In)) (rB2 G W fun h a b => R.of ((inD h a b).map fun t => .bl (if neg then !t else t)) h) := by
  intro pins s σ0 H x y v u Q I rx ry hq
  obtain ⟨ι, h, d1, d2, σ, r, q1, q2, f⟩ := hq
  dsimp only at f
  unfold inD at f
  cases e2 : view h d2 with
  | str z =>
    rw [e2] at f
    have h2 := view_str q2 e2
    subst h2
    cases d1 <;> (try exact f.elim)
    rename_i z1
    have h1 := q1.strD
    subst h1
    have fq := fin_same f r (VR.bl _)
    cases neg with
    | false => exact op_in_str pins s σ0 H _ _ v u Q I rx ry ⟨_, _, rfl, rfl, fq⟩
    | true => exact op_notin_str pins s σ0 H _ _ v u Q I rx ry ⟨_, _, rfl, rfl, fq⟩
  | tup ws =>
    rw [e2] at f
    dsimp only at f
    by_cases hp : (plain 60 (view h d1) && ws.all (plain 60)) = true
    · rw [if_pos hp] at f
      rw [Bool.and_eq_true] at hp
      obtain ⟨a, vs, rfl, t, w⟩ := view_tup r q2 e2
      have hall : ∀ x ∈ ws, plain 60 x = true := List.all_eq_true.mp hp.2
      have fq := fin_same f r (VR.bl _)
      refine op_inT hK rm (neg := neg) pins s σ0 H _ _ v u Q I rx ry ⟨_, _, view_dp r q1 hp.1, .tup t.sq (w.dp hall), plain_shaped hp.1, (shaped_seq (plains_lay hall).1 (plains_lay hall).2).1, ?_⟩
      rw [any_toPs]
      exact fq
    · rw [if_neg hp] at f
      exact False.elim f
  | lst ws =>
    rw [e2] at f
    dsimp only at f
    by_cases hp : (plain 60 (view h d1) && ws.all (plain 60)) = true
    · rw [if_pos hp] at f
      rw [Bool.and_eq_true] at hp
      obtain ⟨a, vs, rfl, t, w⟩ := view_lst r q2 e2
      have hall : ∀ x ∈ ws, plain 60 x = true := List.all_eq_true.mp hp.2
      have fq := fin_same f r (VR.bl _)
      have g1 := view_dp r q1 hp.1
      have g2 : Dp G.K H (.ref a) (.list (toPs ws)) := .lst t (w.dp hall)
      rw [← hK] at g1 g2
      cases neg with
      | false =>
        refine op_inD rm.u65 pins s σ0 H _ _ v u Q I rx ry ⟨_, _, g1, g2, plain_shaped hp.1, (shaped_seq (plains_lay hall).1 (plains_lay hall).2).2, ?_⟩
        rw [any_toPs]; exact fq
      | true =>
        refine op_notInD rm.u65 pins s σ0 H _ _ v u Q I rx ry ⟨_, _, g1, g2, plain_shaped hp.1, (shaped_seq (plains_lay hall).1 (plains_lay hall).2).2, ?_⟩
        rw [any_toPs]; exact fq
    · rw [if_neg hp] at f
      exact False.elim f
  | dct ks ws =>
    rw [e2] at f
    dsimp only at f
    by_cases kf : keyFit ks d1 = true
    · rw [if_pos kf] at f
      obtain ⟨a, o, kvs, vvs, rfl, ho, z0, w1, w2⟩ := view_dct r q2 e2
      obtain ⟨g, gg, tl⟩ := get_ok ho z0 w1 w2 q1 kf
      have is_ : g.isSome = (dgetK ks ws d1).isSome := by
        cases e : dgetK ks ws d1 with
        | none => rw [e] at tl; rw [show g = none from tl]; rfl
        | some d => rw [e] at tl; obtain ⟨v, rfl, -⟩ := tl; rfl
      have fq := fin_same f r (VR.bl _)
      obtain rfl : u = .ref a := ry
      obtain ⟨g1, g2, -⟩ := gg X pins σ0 s _ hK hP hw rm.u64 I rx X.xe (EP X pins σ0 Q)
      cases neg with
      | false => exact g1 fun s' I' => ⟨.bl _, H, I', rfl, by rw [is_]; exact fq⟩
      | true => exact g2 fun s' I' => ⟨.bl _, H, I', rfl, by rw [is_]; exact fq⟩
    · rw [if_neg kf] at f
      exact False.elim f
  | non => rw [e2] at f; exact f.elim
  | bl _ => rw [e2] at f; exact f.elim
  | int _ => rw [e2] at f; exact f.elim
  | ref _ => rw [e2] at f; exact f.elim
  | clo _ _ => rw [e2] at f; exact f.elim
  | hole => rw [e2] at f; exact f.elim
  | slst _ => rw [e2] at f; exact f.elim

/-! ### [ ] -/
theorem natIx_ix {n m : Nat} {i : Int} (e : natIx n i = some m) : ixN n i = some m := by
  unfold natIx at e
  unfold ixN
  split at e
  · rename_i h0
    split at e
    · rename_i h1
      rw [if_pos h0, if_pos (by omega)]
      exact e
    · cases e
  · rename_i h0
    split at e
    · rename_i h1
      rw [if_neg h0, if_pos (by omega)]
      rw [← e]
      congr 1
      omega
    · cases e
theorem sub_dict {A : Around} {E : Value → Shared → Prop} {s : Shared} {value slice : Expr} {o i : Value} {Q : Value → Shared → Prop} (hT : s.TypeIs o "dict")
    (h : wpAny (model X.prog X.w) A (getItem o i) Q E s) (hs : subscripted slice false o i = operate [o, i] (getItem o i)) : wpAny (model X.prog X.w) A (PyProof.Rows.subscriptTail value slice o i) Q E s := by
  unfold PyProof.Rows.subscriptTail
  refine wpAny_bind ?_
  rw [getitemInPython_of_ne hT.not_modules]
  refine wpAny_bind (wpAny_specialOf hT PySem.F.slot_dict_getitem.lookup ?_)
  have fin : wpAny (model X.prog X.w) A (subscripted slice false o i) (fun r s₃ => wpAny (model X.prog X.w) A (letTemporaryGo value o r >>= fun _ => pure r) Q E s₃) E s := by
    rw [hs]
    exact wpAny_operating (wpAny_mono h (fun r s₃ h₃ => wpAny_bind (wpAny_letTemporaryGo (wpAny_pure h₃))) fun _ _ x => x)
  first
    | exact wpAny_pure (wpAny_bind fin)
    | exact wpAny_bind (wpAny_pure (wpAny_bind fin))
    | exact wpAny_bind fin
theorem ix_seqD {k : Nat} (hK : X.K = G.K) (hP : X.prog = G.P) (hw : X.w = G.w) (rm : RoomG k X) : IxR X (rB2 G W fun h a b => R.of (ixD h a b) h) := by
  intro e1' e2' pins s σ0 H x y v u Q I rx ry hq hsub
  obtain ⟨ι, h, d1, d2, σ, r, q1, q2, f⟩ := hq
  dsimp only at f
  unfold ixD at f
  cases e1 : view h d1 with
  | tup ws =>
    rw [e1] at f
    dsimp only at f
    obtain ⟨a, vs, rfl, t, w⟩ := view_tup r q1 e1
    cases d2 <;> (try exact f.elim)
    rename_i i
    have h2 := q2.intD
    subst h2
    dsimp only [isInt, Option.bind] at f
    cases en : natIx ws.length i with
    | none => rw [en] at f; exact f.elim
    | some n =>
      rw [en] at f
      dsimp only at f
      cases ew : ws[n]? with
      | none => rw [ew] at f; exact f.elim
      | some d =>
        rw [ew] at f
        obtain ⟨z, hz, rz⟩ := w.get ew
        refine ix_tup e1' e2' pins s σ0 H _ _ v u Q I rx ry ⟨a, vs, i, z, rfl, rfl, by rw [hK]; exact t.sq, ?_, fin_same f r rz⟩ hsub
        unfold atI
        rw [w.length, natIx_ix en]
        exact hz
  | lst ws =>
    rw [e1] at f
    dsimp only at f
    obtain ⟨a, vs, rfl, t, w⟩ := view_lst r q1 e1
    cases d2 <;> (try exact f.elim)
    rename_i i
    have h2 := q2.intD
    subst h2
    dsimp only [isInt, Option.bind] at f
    cases en : natIx ws.length i with
    | none => rw [en] at f; exact f.elim
    | some n =>
      rw [en] at f
      dsimp only at f
      cases ew : ws[n]? with
      | none => rw [ew] at f; exact f.elim
      | some d =>
        rw [ew] at f
        obtain ⟨z, hz, rz⟩ := w.get ew
        refine ix_list e1' e2' pins s σ0 H _ _ v u Q I rx ry ⟨a, vs, i, z, rfl, rfl, by rw [hK]; exact t, ?_, fin_same f r rz⟩ hsub
        unfold atI
        rw [w.length, natIx_ix en]
        exact hz
  | str z =>
    rw [e1] at f
    dsimp only at f
    have h1 := view_str q1 e1
    subst h1
    split at f
    · rename_i hf
      cases d2 <;> (try exact f.elim)
      rename_i i
      have h2 := q2.intD
      subst h2
      dsimp only [isInt, Option.bind] at f
      cases en : natIx z.cps.toList.length i with
      | none => rw [en] at f; exact f.elim
      | some n =>
        rw [en] at f
        dsimp only at f
        cases ew : z.cps.toList[n]? with
        | none => rw [ew] at f; exact f.elim
        | some c =>
          rw [ew] at f
          refine ix_str e1' e2' pins s σ0 H _ _ v u Q I rx ry ⟨z, i, c, rfl, rfl, fits_le hf, ?_, fin_same f r (.str _)⟩ hsub
          unfold atI
          rw [natIx_ix en]
          exact ew
    · exact f.elim
  | dct ks ws =>
    rw [e1] at f
    dsimp only at f
    by_cases kf : keyFit ks d2 = true
    · rw [if_pos kf] at f
      obtain ⟨a, o, kvs, vvs, rfl, ho, z0, w1, w2⟩ := view_dct r q1 e1
      obtain ⟨g, gg, tl⟩ := get_ok ho z0 w1 w2 q2 kf
      obtain rfl : v = .ref a := rx
      obtain ⟨-, -, g3, -, -, -, ty, -⟩ := gg X pins σ0 s _ hK hP hw rm.u64 I ry X.xe (EP X pins σ0 Q)
      cases e : dgetK ks ws d2 with
      | none => rw [e] at f; exact f.elim
      | some d =>
        rw [e] at f tl
        obtain ⟨z, rfl, rz⟩ := tl
        refine sub_dict ty ?_ hsub
        exact g3 z rfl fun w' s' I' rw' => ⟨z, H, I', rw', fin_same f r rz⟩
    · rw [if_neg kf] at f
      exact False.elim f
  | non => rw [e1] at f; exact f.elim
  | bl _ => rw [e1] at f; exact f.elim
  | int _ => rw [e1] at f; exact f.elim
  | ref _ => rw [e1] at f; exact f.elim
  | clo _ _ => rw [e1] at f; exact f.elim
  | hole => rw [e1] at f; exact f.elim
  | slst _ => rw [e1] at f; exact f.elim

/-! ### truth, length -/
theorem tru_V (r : HR G ι h H) (q : VR G ι H v d) {b : Bool} (e : tru h d = some b) : TruV G.K v H b := by
  unfold tru at e
  split at e
  · rename_i e1; rw [view_non q e1]; cases e; rfl
  · rename_i e1; rw [view_bl q e1]; cases e; rfl
  · rename_i i e1; rw [view_int q e1]; cases e
    show decide (i ≠ 0) = (i != 0)
    by_cases hi : i = 0 <;> simp [hi]
  · rename_i x e1
    split at e
    · rename_i hf
      rw [view_str q e1]
      cases e
      refine ⟨fits_le hf, ?_⟩
      by_cases hx : x.length = 0
      · simp [hx]
      · have : (x.length : Int) ≠ 0 := by omega
        simp [hx, this]
    · cases e
  · rename_i e1
    cases e
    obtain ⟨a, vs, rfl, t, w⟩ := view_tup r q e1
    refine .inr (.inl ⟨vs, t.sq, ?_⟩)
    cases w <;> rfl
  · rename_i e1
    cases e
    obtain ⟨a, vs, rfl, t, w⟩ := view_lst r q e1
    refine .inl ⟨vs, t, ?_⟩
    cases w <;> rfl
  · cases e
theorem TruV.kx {K K' : PySem.W.Frag} (e : K' = K) {x : V} {b : Bool} (t : TruV K x H b) : TruV K' x H b := by rw [e]; exact t
end Rx

/-! RxD: expressions. -/
namespace Rx
open PySem L2
variable {G : Gx} {W : WX} {cl : Cl} {k : Nat} {N : List Str} {sc : Scope} {st : List Str} {X : Cx}

/-- a place where code of the program runs -/
structure Gd (G : Gx) (W : WX) (k : Nat) (N : List Str) (sc : Scope) (st : List Str) (X : Cx) : Prop where
  hN : X.N = N
  hsc : X.env.scope = sc
  nd : N.Nodup
  hP : X.prog = G.P
  hw : X.w = G.w
  hK : X.K = G.K
  hm : X.mg = G.mg
  hb : X.base = G.base
  calm : X.calm = true
  rm : RoomG k X
  tk : Takes X W
  own : PassesOwn (model X.prog X.w) X.A X.env X.xe
  sto : ∀ x ∈ st, X.fn x = true ∨ X.env.scope.names.lookup x = some .local

theorem PE.of {e : Expr} {t t' : TE} (h : PE X e t) (i : ∀ σ H Q, t' σ H Q → t σ H Q) : PE X e t' :=
  ⟨fun pins s σ H Q I q => h.run pins s σ H Q I (i σ H Q q)⟩
theorem PT.of {e : Expr} {t t' : TT} (h : PT X e t) (i : ∀ σ H Q, t' σ H Q → t σ H Q) : PT X e t' :=
  ⟨fun pins s σ H Q I q => h.run pins s σ H Q I (i σ H Q q)⟩
theorem PA.of {e : List Expr} {t t' : TA} (h : PA X e t) (i : ∀ σ H Q, t' σ H Q → t σ H Q) : PA X e t' :=
  ⟨fun pos pins s σ H Q I q => h.run pos pins s σ H Q I (i σ H Q q)⟩
theorem PS.of {e : Stmt} {t t' : TS} (h : PS X e t) (i : ∀ D σ H, t' D σ H → t D σ H) : PS X e t' :=
  ⟨fun pins s σ H D I q => h.run pins s σ H D I (i D σ H q)⟩
theorem PSs.of {e : List Stmt} {t t' : TS} (h : PSs X e t) (i : ∀ D σ H, t' D σ H → t D σ H) : PSs X e t' :=
  ⟨fun pins s σ H D I q => h.run pins s σ H D I (i D σ H q)⟩

/-- no star -/
def plainE : Expr → Bool
  | .Starred _ _ => false
  | _ => true
theorem star_cons {env : Env} {e : Expr} {es : List Expr} (h : plainE e = true) : starEach (e :: es) env = (false, eval e env) :: starEach es env := by
  cases e <;> first | rfl | (cases h)
theorem star_none {env : Env} {pos : Pos} : ∀ {es : List Expr}, es.all plainE = true → (backTo pos (starEach es env)).any (·.1) = false
  | [], _ => rfl
  | e :: es, h => by
    rw [List.all_cons, Bool.and_eq_true] at h
    rw [star_cons h.1]
    show (false || (backTo pos (starEach es env)).any (·.1)) = false
    rw [star_none h.2]; rfl
def notSlice : Expr → Bool
  | .Slice _ _ _ _ => false
  | _ => true
theorem plainIx {b : Expr} (h : notSlice b = true) : PlainIx b := fun o i => by
  cases b <;> first | rfl | (cases h)
/-- a receiver that is no module's name, no super() -/
def plainO : Expr → Bool
  | .Call _ _ _ _ => false
  | _ => true
theorem baseO {env : Env} {o : Expr} {f : Str} (h : plainO o = true) : attributeBase o f env (eval o env) = eval o env := by
  cases o <;> first | rfl | (cases h)
/-- an expression whose test is its value's truth -/
def plainT : Expr → Bool
  | .UnaryOp .Not _ _ => false
  | .BoolOp _ _ _ => false
  | .IfExp _ _ _ _ => false
  | .Compare _ _ _ _ => false
  | _ => true
theorem isT {env : Env} {e : Expr} (h : plainT e = true) (whole : Sem Value) : isTrue e env whole = (do
    let v ← whole
    standAt e.pos
    holding [v] (truthy v)) := by
  cases e <;> first | rfl | (cases h) | skip
  rename_i op a p
  cases op <;> first | rfl | cases h

/-- the test of a value -/
theorem tT_of {e : Expr} {ir : E} (g : Gd G W k N sc st X) (h : PE X e (tE G W cl ir)) (hp : plainT e = true) : PT X e (tT G W cl ir) := by
  refine PT.of (pt_truth h (isT hp)) ?_
  rintro σ H Q ⟨ι, ρ, hq, er, hr, f⟩
  refine ⟨ι, ρ, hq, er, hr, (FinV.bindB f).imp ?_⟩
  rintro v H1 ⟨ι1, d1, h1, e1, r1, q1, -, f1⟩
  cases et : tru h1 d1 with
  | none => rw [et] at f1; exact f1.elim
  | some b =>
    rw [et] at f1
    exact ⟨b, TruV.kx g.hK (tru_V r1 q1 et), f1 ι1 H1 .refl r1⟩

/-! ### names, constants, displays -/
theorem x_var {i : Nat} {x : Str} {pos : Pos} (g : Gd G W k N sc st X) (hi : N[i]? = some x) (hv : Vis sc x) (hd : (x == ("__debug__" : Str)) = false) (hc : (x == ("__classdict__" : Str)) = false) :
    PE X (.Name x pos) (tE G W cl (.var i)) := by
  refine PE.of (pe_var (i := i) (by rw [g.hN]; exact hi) (by rw [g.hsc]; exact hv) hd hc) ?_
  rintro σ H Q ⟨ι, ρ, h, er, hr, f⟩
  have f : FinV G W ι H σ (match ρ[i]? with
    | some (some d) => .ok d h
    | _ => .er) Q := f
  cases e : ρ[i]? with
  | none => rw [e] at f; exact f.elim
  | some o =>
    cases o with
    | none => rw [e] at f; exact f.elim
    | some d =>
      rw [e] at f
      obtain ⟨v, h1, h2⟩ := er.at_ i d e
      exact ⟨v, h1, fin_same f hr h2⟩
theorem x_const {e : Expr} {v : V} {d : D} (h : PE X e (tC v)) (r : ∀ ι H, VR G ι H v d) : PE X e (tE G W cl (.c d)) := by
  refine PE.of h ?_
  rintro σ H Q ⟨ι, ρ, h, er, hr, f⟩
  exact fin_same f hr (r ι H)
theorem x_nil : PA X [] (tEs G W cl .nil) := by
  refine PA.of pa_nil ?_
  rintro σ H Q ⟨ι, ρ, h, er, hr, f⟩
  exact f ι H [] .refl hr .nil
theorem x_cons {e : Expr} {es : List Expr} {i : E} {is : Es} (h1 : PE X e (tE G W cl i)) (h2 : PA X es (tEs G W cl is)) (hp : plainE e = true) : PA X (e :: es) (tEs G W cl (.cons i is)) := by
  refine PA.of (pa_cons h1 h2 (star_cons hp)) ?_
  rintro σ H Q ⟨ι, ρ, h, er, hr, f⟩
  refine ⟨ι, ρ, h, er, hr, (FinV.bindL f).imp ?_⟩
  rintro v H1 ⟨ι1, d1, h1, e1, r1, q1, -, f1⟩
  refine ⟨ι1, ρ, h1, er.ext e1, r1, ?_⟩
  cases e2 : evEs cl is ρ h1 with
  | ok ds h2 =>
    rw [e2] at f1
    intro ι2 H2 vs x2 r2 q2
    exact f1 ι2 H2 (v :: vs) x2 r2 (.cons (q1.ext x2) q2)
  | xc x h2 => rw [e2] at f1; exact f1
  | er => rw [e2] at f1; exact f1
theorem x_tup {es : List Expr} {is : Es} {j : Nat} {pos : Pos} (h : PA X es (tEs G W cl is)) (hl : es.length ≤ 1000) (he : ∀ ρ q ds q', evEs cl is ρ q = .ok ds q' → ds.length = es.length) : PE X (.Tuple es j pos) (tE G W cl (.tup is)) := by
  refine PE.of (pe_tup h) ?_
  rintro σ H Q ⟨ι, ρ, h, er, hr, f⟩
  refine ⟨ι, ρ, h, er, hr, (FinL.bind f).imp ?_⟩
  rintro vs H1 ⟨ι1, ds1, h1, e1, r1, q1, e2, f1⟩
  refine ⟨?_, fun p np => fin_tup f1 r1 q1 np⟩
  rw [q1.length, he _ _ _ _ e2]
  exact Nat.le_trans hl (by decide)
theorem x_lstF {es : List Expr} {is : Es} {pos : Pos} (h : PA X es (tEs G W cl is)) (hl : es.length ≤ 1000) (he : ∀ ρ q ds q', evEs cl is ρ q = .ok ds q' → ds.length = es.length) : PE X (.List es pos) (tE G W cl (.lstF is)) := by
  refine PE.of (pe_lst h) ?_
  rintro σ H Q ⟨ι, ρ, h, er, hr, f⟩
  refine ⟨ι, ρ, h, er, hr, (FinL.bind f).imp ?_⟩
  rintro vs H1 ⟨ι1, ds1, h1, e1, r1, q1, e2, f1⟩
  refine ⟨?_, fun p np => fin_lst f1 r1 q1 np⟩
  rw [q1.length, he _ _ _ _ e2]
  exact Nat.le_trans hl (by decide)
theorem x_lstM {es : List Expr} {is : Es} {pos : Pos} (h : PA X es (tEs G W cl is)) (hl : es.length ≤ 1000) (he : ∀ ρ q ds q', evEs cl is ρ q = .ok ds q' → ds.length = es.length) : PE X (.List es pos) (tE G W cl (.lstM is)) := by
  refine PE.of (pe_lst h) ?_
  rintro σ H Q ⟨ι, ρ, h, er, hr, f⟩
  refine ⟨ι, ρ, h, er, hr, (FinL.bind f).imp ?_⟩
  rintro vs H1 ⟨ι1, ds1, h1, e1, r1, q1, e2, f1⟩
  refine ⟨?_, fun p np => fin_lstM f1 r1 q1 np⟩
  rw [q1.length, he _ _ _ _ e2]
  exact Nat.le_trans hl (by decide)

/-! ### operators -/
theorem x_two {a b : Expr} {ia ib : E} {r : R2} {F : Hq → D → D → R D} {ir : E} {e : Expr} (ev : ∀ ρ h, evE cl ir ρ h = (evE cl ia ρ h).bind fun x h1 => (evE cl ib ρ h1).bind fun y h2 => F h2 x y)
    (hr : ∀ x y H Q, rB2 G W F x y H Q → r x y H Q) (h : PE X e (tOp r (tE G W cl ia) (tE G W cl ib))) : PE X e (tE G W cl ir) := by
  refine PE.of h ?_
  rintro σ H Q ⟨ι, ρ, q, er, rq, f⟩
  rw [ev] at f
  refine ⟨ι, ρ, q, er, rq, (FinV.bind f).imp ?_⟩
  rintro v1 H1 ⟨ι1, d1, h1, e1, r1, q1, -, f1⟩
  refine ⟨ι1, ρ, h1, er.ext e1, r1, (FinV.bind f1).imp ?_⟩
  rintro v2 H2 ⟨ι2, d2, h2, e2, r2, q2, -, f2⟩
  exact hr _ _ _ _ ⟨ι2, h2, d1, d2, σ, r2, q1.ext e2, q2, f2⟩
theorem x_bin {a b : Expr} {ia ib : E} {o : Op2} {pos : Pos} (g : Gd G W k N sc st X) (ha : PE X a (tE G W cl ia)) (hb : PE X b (tE G W cl ib)) : PE X (.BinOp a (opOf o) b pos) (tE G W cl (.bin o ia ib)) :=
  x_two (a := a) (b := b) (fun _ _ => rfl) (fun _ _ _ _ h => h) (pe_op (op_bin g.hK o) ha hb)
theorem x_neg {a : Expr} {ia : E} {pos : Pos} (g : Gd G W k N sc st X) (ha : PE X a (tE G W cl ia)) : PE X (.UnaryOp .USub a pos) (tE G W cl (.neg ia)) := by
  refine PE.of (pe_un un_neg ha) ?_
  rintro σ H Q ⟨ι, ρ, q, er, rq, f⟩
  refine ⟨ι, ρ, q, er, rq, (FinV.bind f).imp ?_⟩
  rintro v1 H1 ⟨ι1, d1, h1, e1, r1, q1, -, f1⟩
  cases d1 <;> (try exact f1.elim)
  rename_i i
  rw [q1.intD]
  exact ⟨i, rfl, fin_same f1 r1 (.int _)⟩
/-- a comparison that gives a truth value, by values -/
theorem x_cmpR {a b : Expr} {ia ib : E} {o : Cmp} {op : CmpOp} {pos : Pos} (g : Gd G W k N sc st X) (ha : PE X a (tE G W cl ia)) (hb : PE X b (tE G W cl ib))
    (ho : OpR X (compareOp op) (rB2 G W fun h x y => R.of ((cmpD h o x y).map .bl) h)) (hm : behindInMarks op b = false) :
    PE X (.Compare a [op] [b] pos) (tE G W cl (.cmp o ia ib)) ∧ PT X (.Compare a [op] [b] pos) (tT G W cl (.cmp o ia ib)) := by
  refine ⟨x_two (a := a) (b := b) (fun _ _ => rfl) (fun _ _ _ _ h => h) (pe_cmpR ho ha hb hm), ?_⟩
  refine PT.of (pt_cmpR ho ha hb hm) ?_
  rintro σ H Q ⟨ι, ρ, q, er, rq, f⟩
  have f : FinB G W ι H σ (((evE cl ia ρ q).bind fun x h1 => (evE cl ib ρ h1).bind fun y h2 => R.of ((cmpD h2 o x y).map .bl) h2).bind fun d h => R.of (tru h d) h) Q := f
  have assoc : (((evE cl ia ρ q).bind fun x h1 => (evE cl ib ρ h1).bind fun y h2 => R.of ((cmpD h2 o x y).map .bl) h2).bind fun d h => R.of (tru h d) h) =
      (evE cl ia ρ q).bind fun x h1 => (evE cl ib ρ h1).bind fun y h2 => (R.of ((cmpD h2 o x y).map D.bl) h2).bind fun d h => R.of (tru h d) h := by
    cases evE cl ia ρ q with
    | ok x h1 =>
      simp only [R.bind_ok]
      cases evE cl ib ρ h1 <;> rfl
    | xc => rfl
    | er => rfl
  rw [assoc] at f
  refine ⟨ι, ρ, q, er, rq, (FinV.bindB f).imp ?_⟩
  rintro v1 H1 ⟨ι1, d1, h1, e1, r1, q1, -, f1⟩
  refine ⟨ι1, ρ, h1, er.ext e1, r1, (FinV.bindB f1).imp ?_⟩
  rintro v2 H2 ⟨ι2, d2, h2, e2, r2, q2, -, f2⟩
  refine ⟨ι2, h2, d1, d2, σ, r2, q1.ext e2, q2, ?_⟩
  cases ec : cmpD h2 o d1 d2 with
  | none => rw [ec] at f2; exact f2.elim
  | some t =>
    rw [ec] at f2
    dsimp only
    rw [ec]
    intro ι3 H3 v3 e3 r3 q3
    rw [q3.blD]
    exact ⟨t, rfl, f2 ι3 H3 e3 r3⟩
theorem ec_of {o : Cmp} {neg : Bool} (h : o = if neg then .ne else .eq) (q : Hq) (x y : D) : R.of ((cmpD q o x y).map D.bl) q = R.of ((eqD q x y).map fun t => D.bl (if neg then !t else t)) q := by
  subst h
  cases neg
  · show R.of ((eqD q x y).map D.bl) q = _
    rfl
  · show R.of (((eqD q x y).map (!·)).map D.bl) q = _
    rw [Option.map_map]; rfl
theorem op_cmpI {o : Cmp} (ho : o = .lt ∨ o = .le ∨ o = .gt ∨ o = .ge) : OpR X (compareOp (cmpOf o)) (rB2 G W fun h x y => R.of ((cmpD h o x y).map .bl) h) := by
  intro pins s σ0 H x y v u Q I rx ry hq
  obtain ⟨ι, h, d1, d2, σ, r, q1, q2, f⟩ := hq
  dsimp only at f
  rcases ho with rfl | rfl | rfl | rfl
  all_goals
    cases d1 <;> (try exact f.elim)
    cases d2 <;> (try exact f.elim)
    rw [q1.intD] at rx
    rw [q2.intD] at ry
    have fq := fin_same f r (VR.bl _)
  · exact op_lt pins s σ0 H _ _ v u Q I rx ry ⟨_, _, rfl, rfl, fq⟩
  · exact op_le pins s σ0 H _ _ v u Q I rx ry ⟨_, _, rfl, rfl, fq⟩
  · exact op_gt pins s σ0 H _ _ v u Q I rx ry ⟨_, _, rfl, rfl, fq⟩
  · exact op_ge pins s σ0 H _ _ v u Q I rx ry ⟨_, _, rfl, rfl, fq⟩
theorem op_cmpIs {neg : Bool} : OpR X (compareOp (if neg then .IsNot else .Is)) (rB2 G W fun h x y => R.of ((cmpD h (if neg then .isnot else .is_) x y).map .bl) h) := by
  intro pins s σ0 H x y v u Q I rx ry hq
  obtain ⟨ι, h, d1, d2, σ, r, q1, q2, f⟩ := hq
  dsimp only at f
  have none_case : d2 = .non → wpAny (model X.prog X.w) X.A (compareOp (if neg then .IsNot else .Is) v u) (EP X pins σ0 Q) X.xe s := by
    intro e; subst e
    rw [q2.nonD] at ry
    have key : ∀ b : Bool, b = decide (x = V.non) → FinV G W ι H σ (R.of ((some (if neg then !b else b)).map D.bl) h) Q → wpAny (model X.prog X.w) X.A (compareOp (if neg then .IsNot else .Is) v u) (EP X pins σ0 Q) X.xe s := by
      intro b hb fb
      have fq := fin_same fb r (VR.bl _)
      subst hb
      cases neg with
      | false => exact op_isN pins s σ0 H x _ v u Q I rx ry ⟨rfl, fq⟩
      | true => exact op_notN pins s σ0 H x _ v u Q I rx ry ⟨rfl, fq⟩
    cases neg
    all_goals
      cases q1 <;> first
        | exact key true (by simp) f
        | exact key false (by simp) f
  cases d2 with
  | non => exact none_case rfl
  | bl b =>
    cases neg
    all_goals
      cases d1 <;> (try exact f.elim)
      rename_i a
      rw [q1.blD] at rx
      rw [q2.blD] at ry
      have fq := fin_same f r (VR.bl _)
    · refine op_isBl pins s σ0 H _ _ v u Q I rx ry ⟨a, b, rfl, rfl, ?_⟩
      have : decide (a = b) = (a == b) := by cases a <;> cases b <;> rfl
      rw [this]; exact fq
    · refine op_notBl pins s σ0 H _ _ v u Q I rx ry ⟨a, b, rfl, rfl, ?_⟩
      have : decide (a = b) = (a == b) := by cases a <;> cases b <;> rfl
      rw [this]; exact fq
  | _ => cases neg <;> (cases d1 <;> exact f.elim)
theorem ec_in {o : Cmp} {neg : Bool} (h : o = if neg then .notin else .in_) (q : Hq) (x y : D) : R.of ((cmpD q o x y).map D.bl) q = R.of ((inD q x y).map fun t => D.bl (if neg then !t else t)) q := by
  subst h
  cases neg
  · have e : cmpD q .in_ x y = inD q x y := by unfold cmpD; split <;> first | rfl | contradiction
    show R.of ((cmpD q .in_ x y).map D.bl) q = _
    rw [e]; rfl
  · have e : cmpD q .notin x y = (inD q x y).map (!·) := by unfold cmpD; split <;> first | rfl | contradiction
    show R.of ((cmpD q .notin x y).map D.bl) q = _
    rw [e, Option.map_map]; rfl
theorem op_cmpAll (g : Gd G W k N sc st X) (o : Cmp) : OpR X (compareOp (cmpOf o)) (rB2 G W fun h x y => R.of ((cmpD h o x y).map .bl) h) := by
  have im : ∀ {f1 f2 : Hq → D → D → R D} {op : CmpOp}, (∀ q x y, f2 q x y = f1 q x y) → OpR X (compareOp op) (rB2 G W f1) → OpR X (compareOp op) (rB2 G W f2) := by
    intro f1 f2 op e h pins s σ0 H x y v u Q I rx ry ⟨ι, q, d1, d2, σ, r, q1, q2, f⟩
    rw [e] at f
    exact h pins s σ0 H x y v u Q I rx ry ⟨ι, q, d1, d2, σ, r, q1, q2, f⟩
  cases o with
  | eq => exact im (fun q x y => ec_of (o := .eq) (neg := false) rfl q x y) (op_cmpEq (neg := false) g.hK g.rm.u64)
  | ne => exact im (fun q x y => ec_of (o := .ne) (neg := true) rfl q x y) (op_cmpEq (neg := true) g.hK g.rm.u64)
  | lt => exact op_cmpI (.inl rfl)
  | le => exact op_cmpI (.inr (.inl rfl))
  | gt => exact op_cmpI (.inr (.inr (.inl rfl)))
  | ge => exact op_cmpI (.inr (.inr (.inr rfl)))
  | is_ => exact op_cmpIs (neg := false)
  | isnot => exact op_cmpIs (neg := true)
  | in_ => exact im (fun q x y => ec_in (o := .in_) (neg := false) rfl q x y) (op_cmpIn (neg := false) g.hK g.hP g.hw g.rm)
  | notin => exact im (fun q x y => ec_in (o := .notin) (neg := true) rfl q x y) (op_cmpIn (neg := true) g.hK g.hP g.hw g.rm)
def plainM : Expr → Bool
  | .Set _ _ _ => false
  | _ => true
theorem noMark {b : Expr} {op : CmpOp} (h : plainM b = true) : behindInMarks op b = false := by
  cases b <;> first | rfl | (cases h)
theorem x_cmp {a b : Expr} {ia ib : E} {o : Cmp} {pos : Pos} (g : Gd G W k N sc st X) (ha : PE X a (tE G W cl ia)) (hb : PE X b (tE G W cl ib)) (hm : plainM b = true) :
    PE X (.Compare a [cmpOf o] [b] pos) (tE G W cl (.cmp o ia ib)) ∧ PT X (.Compare a [cmpOf o] [b] pos) (tT G W cl (.cmp o ia ib)) :=
  x_cmpR g ha hb (op_cmpAll g o) (noMark hm)
theorem x_ix {a b : Expr} {ia ib : E} {pos : Pos} (g : Gd G W k N sc st X) (ha : PE X a (tE G W cl ia)) (hb : PE X b (tE G W cl ib)) (hs : notSlice b = true) : PE X (.Subscript a b pos) (tE G W cl (.ix ia ib)) :=
  x_two (a := a) (b := b) (fun _ _ => rfl) (fun _ _ _ _ h => h) (pe_ix (ix_seqD g.hK g.hP g.hw g.rm) ha hb (plainIx hs))
end Rx

/-! RxE: expressions, further: chains, and, or, slices, calls of built-ins, methods of lists. -/
namespace Rx
open PySem L2
variable {G : Gx} {W : WX} {cl : Cl} {k : Nat} {N : List Str} {sc : Scope} {st : List Str} {X : Cx}

theorem R.bind_assoc {α β γ : Type} (r : R α) (f : α → Hq → R β) (q : β → Hq → R γ) : (r.bind f).bind q = r.bind fun a h => (f a h).bind q := by cases r <;> rfl
theorem marks2 {p q : CmpOp} {b c : Expr} (h : plainM c = true) : lastMarks [p, q] [b, c] = false := by
  show behindInMarks q c = false
  exact noMark h
theorem x_chn {a b c : Expr} {ia ib ic : E} {o p : Cmp} {pos : Pos} (g : Gd G W k N sc st X) (ha : PE X a (tE G W cl ia)) (hb : PE X b (tE G W cl ib)) (hc : PE X c (tE G W cl ic)) (hm : plainM c = true) :
    PE X (.Compare a [cmpOf o, cmpOf p] [b, c] pos) (tE G W cl (.chn o p ia ib ic)) ∧ PT X (.Compare a [cmpOf o, cmpOf p] [b, c] pos) (tT G W cl (.chn o p ia ib ic)) := by
  have two : ∀ {σ : MSt} {ι : List Addr} {ρ : Ev} {H : Hp} {q : Hq} {Q : VK}, ER G ι H ρ σ → HR G ι q H → FinV G W ι H σ (evE cl (.chn o p ia ib ic) ρ q) Q →
      tChain (rB2 G W fun h x y => R.of ((cmpD h o x y).map .bl) h) (rB2 G W fun h x y => R.of ((cmpD h p x y).map .bl) h) (tE G W cl ia) (tE G W cl ib) (tE G W cl ic) σ H Q := by
    intro σ ι ρ H q Q er rq f
    have f : FinV G W ι H σ ((evE cl ia ρ q).bind fun x h1 => (evE cl ib ρ h1).bind fun y h2 => (R.of (cmpD h2 o x y) h2).bind fun t h3 =>
      if t then (evE cl ic ρ h3).bind fun z h4 => R.of ((cmpD h4 p y z).map .bl) h4 else .ok (.bl false) h3) Q := f
    refine ⟨ι, ρ, q, er, rq, (FinV.bind f).imp ?_⟩
    rintro v1 H1 ⟨ι1, d1, h1, e1, r1, q1, -, f1⟩
    refine ⟨ι1, ρ, h1, er.ext e1, r1, (FinV.bind f1).imp ?_⟩
    rintro v2 H2 ⟨ι2, d2, h2, e2, r2, q2, -, f2⟩
    refine ⟨ι2, h2, d1, d2, σ, r2, q1.ext e2, q2, ?_⟩
    cases ec : cmpD h2 o d1 d2 with
    | none => rw [ec] at f2; exact f2.elim
    | some t =>
      rw [ec] at f2
      dsimp only
      rw [ec]
      intro ι3 H3 v3 e3 r3 q3
      refine ⟨t, q3.blD, ?_⟩
      cases t with
      | false =>
        rw [if_neg Bool.false_ne_true]
        exact f2 ι3 H3 _ e3 r3 (.bl _)
      | true =>
        rw [if_pos rfl]
        have f3 : FinV G W ι2 H2 σ ((evE cl ic ρ h2).bind fun z h4 => R.of ((cmpD h4 p d2 z).map D.bl) h4) Q := f2
        have f4 : FinV G W ι3 H3 σ ((evE cl ic ρ h2).bind fun z h4 => R.of ((cmpD h4 p d2 z).map D.bl) h4) Q := by
          cases q5 : ((evE cl ic ρ h2).bind fun z h4 => R.of ((cmpD h4 p d2 z).map D.bl) h4) with
          | ok d h => rw [q5] at f3; exact fun ι4 H4 v4 e4 r4 q4 => f3 ι4 H4 v4 (e3.trans e4) r4 q4
          | xc x h => rw [q5] at f3; exact fun ι4 H4 c dd e4 r4 q4 => f3 ι4 H4 c dd (e3.trans e4) r4 q4
          | er => rw [q5] at f3; exact f3
        refine ⟨ι3, ρ, h2, ((er.ext e1).ext e2).ext e3, r3, (FinV.bind f4).imp ?_⟩
        rintro v5 H5 ⟨ι5, d5, h5, e5, r5, q5, -, f5⟩
        exact ⟨ι5, h5, d2, d5, σ, r5, (q2.ext e3).ext e5, q5, f5⟩
  refine ⟨PE.of (pe_chain (op_cmpAll g o) (op_cmpAll g p) ha hb hc (marks2 hm)) ?_, PT.of (pt_chain (op_cmpAll g o) (op_cmpAll g p) ha hb hc (marks2 hm)) ?_⟩
  · rintro σ H Q ⟨ι, ρ, q, er, rq, f⟩
    exact two er rq f
  · rintro σ H Q ⟨ι, ρ, q, er, rq, f⟩
    refine two er rq ?_
    -- the value is a truth value
    cases e : evE cl (.chn o p ia ib ic) ρ q with
    | xc x h =>
      have f : FinB G W ι H σ ((evE cl (.chn o p ia ib ic) ρ q).bind fun d h => R.of (tru h d) h) Q := f
      rw [e] at f; exact f
    | er =>
      have f : FinB G W ι H σ ((evE cl (.chn o p ia ib ic) ρ q).bind fun d h => R.of (tru h d) h) Q := f
      rw [e] at f; exact f
    | ok d h =>
      have f : FinB G W ι H σ ((evE cl (.chn o p ia ib ic) ρ q).bind fun d h => R.of (tru h d) h) Q := f
      rw [e] at f
      have isb : ∃ b, d = .bl b := by
        have e : ((evE cl ia ρ q).bind fun x h1 => (evE cl ib ρ h1).bind fun y h2 => (R.of (cmpD h2 o x y) h2).bind fun t h3 =>
          if t then (evE cl ic ρ h3).bind fun z h4 => R.of ((cmpD h4 p y z).map .bl) h4 else .ok (.bl false) h3) = .ok d h := e
        cases e1 : evE cl ia ρ q with
        | ok x h1 =>
          rw [e1, R.bind_ok] at e
          cases e2 : evE cl ib ρ h1 with
          | ok y h2 =>
            rw [e2, R.bind_ok] at e
            cases e3 : cmpD h2 o x y with
            | none => rw [e3] at e; cases e
            | some t =>
              rw [e3, R.of_some, R.bind_ok] at e
              cases t with
              | false => cases e; exact ⟨_, rfl⟩
              | true =>
                rw [if_pos rfl] at e
                cases e4 : evE cl ic ρ h2 with
                | ok z h4 =>
                  rw [e4, R.bind_ok] at e
                  cases e5 : cmpD h4 p y z with
                  | none => rw [e5] at e; cases e
                  | some t => rw [e5] at e; cases e; exact ⟨_, rfl⟩
                | xc => rw [e4] at e; cases e
                | er => rw [e4] at e; cases e
          | xc => rw [e2] at e; cases e
          | er => rw [e2] at e; cases e
        | xc => rw [e1] at e; cases e
        | er => rw [e1] at e; cases e
      obtain ⟨b, rfl⟩ := isb
      intro ι' H' v' e' r' q'
      exact ⟨b, q'.blD, f ι' H' e' r'⟩

/-! ### not, and, or, if -/
theorem FinB.toV {ι : List Addr} {H : Hp} {σ : MSt} {r : R Bool} {Q : VK} (f : FinV G W ι H σ (r.bind fun b h => .ok (.bl b) h) Q) : FinB G W ι H σ r fun b H1 => Q (.bl b) H1 := by
  cases r with
  | ok b h => exact fun ι' H' e r => f ι' H' _ e r (.bl _)
  | xc x h => exact f
  | er => exact f
theorem tst_val {ι : List Addr} {H : Hp} {σ : MSt} (g : Gd G W k N sc st X) {r : R D} {K : Bool → Hq → R D} {Q : VK} (f : FinV G W ι H σ ((tst r).bind K) Q) :
    FinV G W ι H σ r fun x H1 => ∃ c, TruV X.K x H1 c ∧ ∃ ι1 h1, Ext ι H ι1 H1 ∧ HR G ι1 h1 H1 ∧ FinV G W ι1 H1 σ (K c h1) Q := by
  have f : FinV G W ι H σ ((r.bind fun d h => R.of (tru h d) h).bind K) Q := f
  rw [R.bind_assoc] at f
  refine (FinV.bind f).imp ?_
  rintro v H1 ⟨ι1, d1, h1, e1, r1, q1, -, f1⟩
  cases et : tru h1 d1 with
  | none => rw [et] at f1; exact f1.elim
  | some b =>
    rw [et] at f1
    exact ⟨b, TruV.kx g.hK (tru_V r1 q1 et), ι1, h1, e1, r1, f1⟩
theorem x_not {a : Expr} {ia : E} {pos : Pos} (g : Gd G W k N sc st X) (ha : PE X a (tE G W cl ia)) (ta : PT X a (tT G W cl ia)) :
    PE X (.UnaryOp .Not a pos) (tE G W cl (.not ia)) ∧ PT X (.UnaryOp .Not a pos) (tT G W cl (.not ia)) := by
  refine ⟨PE.of (pe_notT ha) ?_, PT.of (pt_not ta) ?_⟩
  · rintro σ H Q ⟨ι, ρ, q, er, rq, f⟩
    refine ⟨ι, ρ, q, er, rq, (tst_val g f).imp ?_⟩
    rintro v H1 ⟨c, t, ι1, h1, e1, r1, f1⟩
    exact ⟨c, t, fin_same f1 r1 (.bl _)⟩
  · rintro σ H Q ⟨ι, ρ, q, er, rq, f⟩
    refine ⟨ι, ρ, q, er, rq, ?_⟩
    have f : FinB G W ι H σ (((tst (evE cl ia ρ q)).bind fun b h1 => .ok (.bl (!b)) h1).bind fun d h => R.of (tru h d) h) Q := f
    rw [R.bind_assoc] at f
    cases e : tst (evE cl ia ρ q) with
    | ok b h => rw [e] at f; exact f
    | xc x h => rw [e] at f; exact f
    | er => rw [e] at f; exact f
theorem FinV.ext {ι ι' : List Addr} {H H' : Hp} {σ : MSt} {r : R D} {Q : VK} (f : FinV G W ι H σ r Q) (e3 : Ext ι H ι' H') : FinV G W ι' H' σ r Q := by
  cases r with
  | ok d h => exact fun ι4 H4 v4 e4 r4 q4 => f ι4 H4 v4 (e3.trans e4) r4 q4
  | xc x h => exact fun ι4 H4 c dd e4 r4 q4 => f ι4 H4 c dd (e3.trans e4) r4 q4
  | er => exact f
theorem FinB.ext {ι ι' : List Addr} {H H' : Hp} {σ : MSt} {r : R Bool} {Q : Bool → Hp → Prop} (f : FinB G W ι H σ r Q) (e3 : Ext ι H ι' H') : FinB G W ι' H' σ r Q := by
  cases r with
  | ok d h => exact fun ι4 H4 e4 r4 => f ι4 H4 (e3.trans e4) r4
  | xc x h => exact fun ι4 H4 c dd e4 r4 q4 => f ι4 H4 c dd (e3.trans e4) r4 q4
  | er => exact f
theorem x_and {a b : Expr} {rest : List Expr} {ia ib : E} {pos : Pos} (g : Gd G W k N sc st X) (ha : PE X a (tE G W cl ia)) (ta : PT X a (tT G W cl ia)) (hb : PE X (.BoolOp .And (b :: rest) pos) (tE G W cl ib)) (tb : PW X (.BoolOp .And (b :: rest) pos) (tT G W cl ib)) :
    PE X (.BoolOp .And (a :: b :: rest) pos) (tE G W cl (.and_ ia ib)) ∧ PW X (.BoolOp .And (a :: b :: rest) pos) (tT G W cl (.and_ ia ib)) := by
  refine ⟨PE.of (pe_andT ha hb) ?_, ⟨fun wh pins s σ H Q I hw => (pw_and ta tb).run wh pins s σ H Q I ?_⟩⟩
  · rintro σ H Q ⟨ι, ρ, q, er, rq, f⟩
    refine ⟨ι, ρ, q, er, rq, (FinV.bind f).imp ?_⟩
    rintro v H1 ⟨ι1, d1, h1, e1, r1, q1, -, f1⟩
    cases et : tru h1 d1 with
    | none => rw [et] at f1; exact f1.elim
    | some c =>
      rw [et] at f1
      refine ⟨c, TruV.kx g.hK (tru_V r1 q1 et), ?_⟩
      cases c with
      | true => rw [if_pos rfl]; exact ⟨ι1, ρ, h1, er.ext e1, r1, f1⟩
      | false => rw [if_neg Bool.false_ne_true]; exact fin_same f1 r1 q1
  · obtain ⟨ι, ρ, q, er, rq, f⟩ := hw
    have f : FinB G W ι H σ (((evE cl ia ρ q).bind fun x h1 => (R.of (tru h1 x) h1).bind fun t h2 => if t then evE cl ib ρ h2 else .ok x h2).bind fun d h => R.of (tru h d) h) Q := f
    refine ⟨ι, ρ, q, er, rq, ?_⟩
    show FinB G W ι H σ ((evE cl ia ρ q).bind fun d h => R.of (tru h d) h) _
    cases e : evE cl ia ρ q with
    | xc x h => rw [e] at f; exact f
    | er => rw [e] at f; exact f
    | ok d h =>
      rw [e, R.bind_ok] at f
      rw [R.bind_ok]
      cases et : tru h d with
      | none => rw [et] at f; exact f
      | some c =>
        rw [et, R.of_some, R.bind_ok] at f
        intro ι1 H1 e1 r1
        cases c with
        | true => rw [if_pos rfl]; exact ⟨ι1, ρ, h, er.ext e1, r1, f.ext e1⟩
        | false =>
          rw [if_neg Bool.false_ne_true] at f ⊢
          rw [R.bind_ok, et] at f
          exact f ι1 H1 e1 r1
theorem x_or {a b : Expr} {rest : List Expr} {ia ib : E} {pos : Pos} (g : Gd G W k N sc st X) (ha : PE X a (tE G W cl ia)) (ta : PT X a (tT G W cl ia)) (hb : PE X (.BoolOp .Or (b :: rest) pos) (tE G W cl ib)) (tb : PW X (.BoolOp .Or (b :: rest) pos) (tT G W cl ib)) :
    PE X (.BoolOp .Or (a :: b :: rest) pos) (tE G W cl (.or_ ia ib)) ∧ PW X (.BoolOp .Or (a :: b :: rest) pos) (tT G W cl (.or_ ia ib)) := by
  refine ⟨PE.of (pe_orT ha hb) ?_, ⟨fun wh pins s σ H Q I hw => (pw_or ta tb).run wh pins s σ H Q I ?_⟩⟩
  · rintro σ H Q ⟨ι, ρ, q, er, rq, f⟩
    refine ⟨ι, ρ, q, er, rq, (FinV.bind f).imp ?_⟩
    rintro v H1 ⟨ι1, d1, h1, e1, r1, q1, -, f1⟩
    cases et : tru h1 d1 with
    | none => rw [et] at f1; exact f1.elim
    | some c =>
      rw [et] at f1
      refine ⟨c, TruV.kx g.hK (tru_V r1 q1 et), ?_⟩
      cases c with
      | true => rw [if_pos rfl]; exact fin_same f1 r1 q1
      | false => rw [if_neg Bool.false_ne_true]; exact ⟨ι1, ρ, h1, er.ext e1, r1, f1⟩
  · obtain ⟨ι, ρ, q, er, rq, f⟩ := hw
    have f : FinB G W ι H σ (((evE cl ia ρ q).bind fun x h1 => (R.of (tru h1 x) h1).bind fun t h2 => if t then .ok x h2 else evE cl ib ρ h2).bind fun d h => R.of (tru h d) h) Q := f
    refine ⟨ι, ρ, q, er, rq, ?_⟩
    show FinB G W ι H σ ((evE cl ia ρ q).bind fun d h => R.of (tru h d) h) _
    cases e : evE cl ia ρ q with
    | xc x h => rw [e] at f; exact f
    | er => rw [e] at f; exact f
    | ok d h =>
      rw [e, R.bind_ok] at f
      rw [R.bind_ok]
      cases et : tru h d with
      | none => rw [et] at f; exact f
      | some c =>
        rw [et, R.of_some, R.bind_ok] at f
        intro ι1 H1 e1 r1
        cases c with
        | false => rw [if_neg Bool.false_ne_true]; exact ⟨ι1, ρ, h, er.ext e1, r1, f.ext e1⟩
        | true =>
          rw [if_pos rfl] at f ⊢
          rw [R.bind_ok, et] at f
          exact f ι1 H1 e1 r1
theorem x_ite {c a b : Expr} {ic ia ib : E} {pos : Pos} (g : Gd G W k N sc st X) (hc : PT X c (tT G W cl ic)) (ha : PE X a (tE G W cl ia)) (hb : PE X b (tE G W cl ib)) :
    PE X (.IfExp c a b pos) (tE G W cl (.ite ic ia ib)) := by
  refine PE.of (pe_ifExp hc ha hb) ?_
  rintro σ H Q ⟨ι, ρ, q, er, rq, f⟩
  refine ⟨ι, ρ, q, er, rq, (FinB.bind f).imp ?_⟩
  rintro t H1 ⟨ι1, h1, e1, r1, -, f1⟩
  cases t with
  | true => rw [if_pos rfl] at f1 ⊢; exact ⟨ι1, ρ, h1, er.ext e1, r1, f1⟩
  | false => rw [if_neg Bool.false_ne_true] at f1 ⊢; exact ⟨ι1, ρ, h1, er.ext e1, r1, f1⟩

/-! ### slices -/
def optOf : D → Option Int
  | .int i => some i
  | _ => none
theorem clip_sIx {n dflt m : Nat} {d : D} (hd : dflt ≤ n) (e : clip n dflt d = some m) : m = HT.sIx n dflt (optOf d) ∧ (d = .hole ∨ ∃ i, d = .int i) := by
  cases d with
  | hole => cases e; exact ⟨rfl, .inl rfl⟩
  | int i =>
    refine ⟨?_, .inr ⟨i, rfl⟩⟩
    unfold clip at e
    unfold HT.sIx optOf
    dsimp only at e ⊢
    by_cases h0 : 0 ≤ i
    · rw [if_pos h0] at e
      rw [if_neg (by omega)]
      exact (Option.some.inj e).symm
    · rw [if_neg h0] at e
      rw [if_pos (by omega)]
      have := Option.some.inj e
      omega
  | _ => cases e
theorem VRs.cut {ι : List Addr} {H : Hp} {vs : List V} {ds : List D} (w : VRs G ι H vs ds) (lo hi : Option Int) : VRs G ι H (cutV vs lo hi) ((ds.take (HT.sIx ds.length ds.length hi)).drop (HT.sIx ds.length 0 lo)) := by
  unfold cutV
  rw [List.drop_take, w.length]
  exact (w.drop _).take _
theorem sIx_whole {xs : List D} {lo hi : Option Int} (h : HT.sIx xs.length 0 lo = 0 ∧ HT.sIx xs.length xs.length hi = xs.length) : (xs.take (HT.sIx xs.length xs.length hi)).drop (HT.sIx xs.length 0 lo) = xs := by
  rw [h.1, h.2, List.take_length]; rfl
theorem slc_inv {h : Hq} {x y z d : D} (e : slcD h x y z = some d) : ((∃ xs, view h x = .tup xs ∧ d = .tup ((xs.take (HT.sIx xs.length xs.length (optOf z))).drop (HT.sIx xs.length 0 (optOf y)))) ∨
    (∃ xs, view h x = .lst xs ∧ d = .lst ((xs.take (HT.sIx xs.length xs.length (optOf z))).drop (HT.sIx xs.length 0 (optOf y))))) ∧ (y = .hole ∨ ∃ i, y = .int i) ∧ (z = .hole ∨ ∃ i, z = .int i) := by
  unfold slcD at e
  split at e
  · rename_i xs ex
    cases e1 : clip xs.length 0 y with
    | none => rw [e1] at e; cases e
    | some l =>
      rw [e1, Option.bind_some] at e
      cases e2 : clip xs.length xs.length z with
      | none => rw [e2] at e; cases e
      | some u =>
        rw [e2] at e
        cases e
        obtain ⟨h1, h2⟩ := clip_sIx (Nat.zero_le _) e1
        obtain ⟨h3, h4⟩ := clip_sIx (Nat.le_refl _) e2
        exact ⟨.inl ⟨xs, ex, by rw [h1, h3]⟩, h2, h4⟩
  · rename_i xs ex
    cases e1 : clip xs.length 0 y with
    | none => rw [e1] at e; cases e
    | some l =>
      rw [e1, Option.bind_some] at e
      cases e2 : clip xs.length xs.length z with
      | none => rw [e2] at e; cases e
      | some u =>
        rw [e2] at e
        cases e
        obtain ⟨h1, h2⟩ := clip_sIx (Nat.zero_le _) e1
        obtain ⟨h3, h4⟩ := clip_sIx (Nat.le_refl _) e2
        exact ⟨.inr ⟨xs, ex, by rw [h1, h3]⟩, h2, h4⟩
  · cases e
/-- a part of a slice: none, or an expression -/
def partOf (cl : Cl) (G : Gx) (W : WX) (o : Option Expr) (i : E) (X : Cx) : Prop := match o with
  | none => i = .c .hole
  | some e => PE X e (tE G W cl i)
/-- the reading of a part -/
def tPo (G : Gx) (W : WX) (cl : Cl) (o : Option Expr) (i : E) : TO := match o with
  | none => tNoPart
  | some _ => tPart (tE G W cl i)
theorem part_po {o : Option Expr} {i : E} (h : partOf cl G W o i X) : PO X o (tPo G W cl o i) := by
  cases o with
  | none => exact po_none
  | some e => exact po_some h
theorem part_use {o : Option Expr} {i : E} (h : partOf cl G W o i X) {ι : List Addr} {ρ : Ev} {q : Hq} {σ : MSt} {H : Hp} {K : D → Hq → R D} {Q : VK} {R : Option Int → Hp → Prop} (er : ER G ι H ρ σ) (rq : HR G ι q H)
    (f : FinV G W ι H σ ((evE cl i ρ q).bind K) Q) (bad : ∀ d h1, ¬ (d = .hole ∨ ∃ z, d = .int z) → ∀ ι1 H1, ¬ FinV G W ι1 H1 σ (K d h1) Q)
    (k1 : ∀ ι1 H1 h1 d, Ext ι H ι1 H1 → HR G ι1 h1 H1 → (d = .hole ∨ ∃ z, d = .int z) → FinV G W ι1 H1 σ (K d h1) Q → R (optOf d) H1) : tPo G W cl o i σ H R := by
  cases o with
  | none =>
    have h : i = .c .hole := h
    subst h
    exact k1 ι H q .hole .refl rq (.inl rfl) f
  | some e =>
    refine ⟨ι, ρ, q, er, rq, (FinV.bind f).imp ?_⟩
    rintro v H1 ⟨ι1, d1, h1, e1, r1, q1, -, f1⟩
    cases d1 with
    | int z => exact ⟨z, q1.intD, k1 ι1 H1 h1 (.int z) e1 r1 (.inr ⟨z, rfl⟩) f1⟩
    | hole => cases q1
    | _ => exact (bad _ _ (by rintro (h | ⟨z, h⟩) <;> cases h) _ _ f1).elim
def rSl (G : Gx) (W : WX) : V → Option Int → Option Int → Hp → VK → Prop := fun x lo hi H Q => ∃ ι h d1 d σ, HR G ι h H ∧ VR G ι H x d1 ∧ ((∃ xs, view h d1 = .tup xs ∧ d = .tup ((xs.take (HT.sIx xs.length xs.length hi)).drop (HT.sIx xs.length 0 lo))) ∨
    (∃ xs, view h d1 = .lst xs ∧ d = .lst ((xs.take (HT.sIx xs.length xs.length hi)).drop (HT.sIx xs.length 0 lo)))) ∧ FinV G W ι H σ (.ok d h) Q
theorem sl_all (hK : X.K = G.K) : SlR X (rSl G W) := by
  intro pins s σ0 H x v vl vu lo hi sl Q I rx hs pl pu ⟨ι, h, d1, d, σ, r, q1, hd, f⟩
  rcases hd with ⟨xs, ev, rfl⟩ | ⟨xs, ev, rfl⟩
  · obtain ⟨a, vs, rfl, t, w⟩ := view_tup r q1 ev
    refine sl_tupA pins s σ0 H _ v vl vu lo hi sl Q I rx hs pl pu ⟨a, vs, rfl, by rw [hK]; exact t.sq, fun e => ?_, fun _ p np => fin_tup f r (w.cut lo hi) np⟩
    rw [w.length] at e
    rw [sIx_whole e] at f
    exact fin_same f r (.tup t w)
  · obtain ⟨a, vs, rfl, t, w⟩ := view_lst r q1 ev
    exact sl_list pins s σ0 H _ v vl vu lo hi sl Q I rx hs pl pu ⟨a, vs, rfl, by rw [hK]; exact t, fun p np => fin_lst f r (w.cut lo hi) np⟩
theorem x_slc {a : Expr} {lo hi : Option Expr} {ia il ih : E} {p2 pos : Pos} (g : Gd G W k N sc st X) (ha : PE X a (tE G W cl ia)) (hl : partOf cl G W lo il X) (hh : partOf cl G W hi ih X) :
    PE X (.Subscript a (.Slice lo hi none p2) pos) (tE G W cl (.slc ia il ih)) := by
  refine PE.of (pe_slice (sl_all (W := W) g.hK) ha (part_po hl) (part_po hh)) ?_
  rintro σ H Q ⟨ι, ρ, q, er, rq, f⟩
  refine ⟨ι, ρ, q, er, rq, (FinV.bind f).imp ?_⟩
  rintro v H1 ⟨ι1, d1, h1, e1, r1, q1, -, f1⟩
  refine part_use hl (er.ext e1) r1 f1 ?_ ?_
  · intro d h2 bad ι2 H2 f2
    cases d <;> first
      | exact f2
      | exact bad (.inl rfl)
      | exact bad (.inr ⟨_, rfl⟩)
  · intro ι2 H2 h2 d e2 r2 hd f2
    have hb : partB d = true := by rcases hd with rfl | ⟨z, rfl⟩ <;> rfl
    rw [if_pos hb] at f2
    refine part_use hh ((er.ext e1).ext e2) r2 f2 ?_ ?_
    · intro z h3 bad ι3 H3 f3
      cases es : slcD h3 d1 d z with
      | none => rw [es] at f3; exact f3
      | some w => exact bad (slc_inv es).2.2
    · intro ι3 H3 h3 z e3 r3 hz f3
      cases es : slcD h3 d1 d z with
      | none => rw [es] at f3; exact f3.elim
      | some w =>
        rw [es] at f3
        obtain ⟨h4, -, -⟩ := slc_inv es
        exact ⟨ι3, h3, d1, w, σ, r3, (q1.ext e2).ext e3, h4, f3⟩
end Rx

/-! RxX: dict comprehensions of keys of all kinds; len, list. -/
namespace Rx
open PySem L2
open PyProof.Rows (envOfC)
variable {G : Gx} {W : WX} {ι ι' : List Addr} {H H' : Hp} {h h' : Hq} {σ : MSt} {v : V} {d : D} {vs : List V} {ds ks ws : List D} {a : Addr} {Q : VK}
variable {X : Cx} {pins : List (Addr × Obj)} {s : Shared}
/-! ### comprehensions that make dicts, keys of all kinds -/
/-- what the block of a dict comprehension asks -/
def tDx (G : Gx) (wi : TI) (g : TG) (tt : TT) (tk tv : TE) (own : List Nat) : TE := fun σ H Q => wi σ H fun J H1 => ∀ D, H1 D = none → ∃ Z : Nat → Nat → Hp → Prop, (∃ m, Z 0 m (upd H1 D (.dK []))) ∧ ∀ i m Hc, Z i m Hc →
  (J.stop i Hc ∧ Q (.ref D) Hc) ∨ (J.go i Hc ∧ ∃ Next : Hp → Prop, (∀ H', Next H' → ∃ m', m' < m ∧ Z (i + 1) m' H') ∧ ∀ x H', J.yld i Hc x H' → g x (wipe σ own) H' fun σ2 H2 => wipe σ2 own = wipe σ own ∧
    tt σ2 H2 fun b H3 => if b = true then tk σ2 H3 fun y H4 => tv σ2 H4 fun z H5 => ∃ o, PutG G H5 D y z o ∧ Next (upd H5 D o) else Next H3)
section
variable {kx vx tg it : Expr} {ifs : List Expr} {scope : Scope} {own : List (Str × Nat)} {pos pos' : Pos} {wi : TI} {g : TG} {tt : TT} {tk tv : TE}
/-- the parts of such a block are read in every block's context -/
structure DxOk (X : Cx) (scope : Scope) (tg : Expr) (ifs : List Expr) (kx vx : Expr) (g : TG) (tt : TT) (tk tv : TE) : Prop where
  tg : ∀ (s : Shared) (H : Hp) (C : Addr) (cl : List (Str × Addr)) (fp : List Addr), PG (X.blk s H scope (compEnvC scope cl C X.env) fp) tg g
  ts : ∀ (s : Shared) (H : Hp) (C : Addr) (cl : List (Str × Addr)) (fp : List Addr), PTs (X.blk s H scope (compEnvC scope cl C X.env) fp) ifs tt
  ky : ∀ (s : Shared) (H : Hp) (C : Addr) (cl : List (Str × Addr)) (fp : List Addr), PE (X.blk s H scope (compEnvC scope cl C X.env) fp) kx tk
  vl : ∀ (s : Shared) (H : Hp) (C : Addr) (cl : List (Str × Addr)) (fp : List Addr), PE (X.blk s H scope (compEnvC scope cl C X.env) fp) vx tv
theorem dx_core {σ : MSt} {H : Hp} {Q : VK} {use : Option (Value → Sem Unit)} {Qf : Value → Shared → Prop} (hK : X.K = G.K) (hP : X.prog = G.P) (hw : X.w = G.w) (hu : X.A.units + 64 < cLine)
    (calm : X.calm = true) (nd : X.N.Nodup) (I : Inv X pins σ H s) (pi : PI X tg it wi) (bo : BlkOk X.N X.env.scope scope own) (ok : DxOk X scope tg ifs kx vx g tt tk tv) (still : ∀ x, foldedSetIterable it X.env x = pure x)
    (q0 : tDx G wi g tt tk tv (own.map (·.2)) σ H Q)
    (after : ∀ D C s' m H', Inv X pins σ H' s' → Q (.ref D) H' → s'.heap.Ns C m → FpOk X pins H' C → compPost (model X.prog X.w) X.A X.xe use Qf (.ref D) C (.ok .next) s') :
    wpAny (model X.prog X.w) X.A (comprehension (.DictComp kx vx [⟨tg, it, ifs, 0⟩] scope pos) scope X.env pos' newDict false (eval it X.env) use) Qf X.xe s := by
  have free_ : ∀ y ∈ scope.names, y.2 = .free → ∃ c, X.env.cells.lookup y.1 = some c := fun y m e => (bo.free y m e).elim (fun k => I.ok.has _ (.inl k)) fun k => I.ok.has _ (.inr k)
  refine wpAny_comprehension_free (use := use) rfl still (closure_ok free_) bo.kind (fun y m e => by rw [bo.uniq y m, e]) (thn (pi.run pins s σ H _ I q0) fun _ _ z => thn z fun _ s2 ⟨it2, fp, tn, J, H2, e2, I2, T, st2, f2, q2⟩ => ?_)
  subst e2
  refine wpAny_newObj_type (newEnv_comp ?_)
  obtain ⟨D, eD⟩ : ∃ D, D = s2.heap.objs.size := ⟨_, rfl⟩
  obtain ⟨Z, ⟨m0, z0⟩, turn⟩ := q2 D (I2.hok.fresh (Nat.le_of_eq eD.symm))
  rw [← eD]
  obtain ⟨s3, es3⟩ : ∃ s3 : Shared, s3 = { s2 with heap := s2.heap.push { cls := .type "dict", data := .dict #[] } } := ⟨_, rfl⟩
  obtain ⟨H3, eH3⟩ : ∃ H3 : Hp, H3 = upd H2 D (.dK []) := ⟨_, rfl⟩
  have hp3 : s3.heap = s2.heap.push { cls := .type "dict", data := .dict #[] } := by rw [es3]
  have I3 : Inv X pins σ H3 s3 := by
    rw [es3, eH3]
    exact I2.laid (t' := s2.toks) (fun b o e => Heap.get?_push_of_some _ e) (Nat.le_of_eq eD.symm) (by rw [eD]; exact dk_empty s2.heap I2.big)
  have low : ∀ b ∈ fp, b < s2.heap.objs.size := fun b m => let ⟨_, e, _⟩ := T.obj _ _ st2 b m; Heap.lt_size e
  have f3 : ∀ b ∈ fp, FpOk X pins H3 b ∧ b < s3.heap.objs.size := fun b m => by
    refine ⟨⟨?_, (f2 b m).2⟩, by rw [hp3, Heap.size_push]; exact Nat.lt_succ_of_lt (low b m)⟩
    rw [eH3, upd_ne (by rw [eD]; exact Nat.ne_of_lt (low b m))]
    exact (f2 b m).1
  have st3 : tn 0 s3.heap := T.keep _ _ _ st2 fun b _ o e => by rw [hp3]; exact Heap.get?_push_of_some _ e
  rw [← eH3] at z0
  have I4 := block_start I3 bo nd f3
  have g0 := ok.tg s3 H3 s3.heap.objs.size (cellsFrom (s3.heap.objs.size + 1) scope.names (cloFrom X.env.cells scope.names [])) fp
  have t0 := ok.ts s3 H3 s3.heap.objs.size (cellsFrom (s3.heap.objs.size + 1) scope.names (cloFrom X.env.cells scope.names [])) fp
  have k0 := ok.ky s3 H3 s3.heap.objs.size (cellsFrom (s3.heap.objs.size + 1) scope.names (cloFrom X.env.cells scope.names [])) fp
  have v0 := ok.vl s3 H3 s3.heap.objs.size (cellsFrom (s3.heap.objs.size + 1) scope.names (cloFrom X.env.cells scope.names [])) fp
  have goal_ : codeAny (model X.prog X.w) X.A (.compStart (.DictComp kx vx [⟨tg, it, ifs, 0⟩] scope pos) 0 (.ref it2) (.ref D) (compEnvC scope (cellsFrom (s3.heap.objs.size + 1) scope.names (cloFrom X.env.cells scope.names [])) s3.heap.objs.size X.env))
      (compPost (model X.prog X.w) X.A X.xe use Qf (.ref D) s3.heap.objs.size) { s3 with heap := pushCells (s3.heap.push { cls := .type "dict", data := .dict #[] }) scope.names } := by
    obtain ⟨ce, ece⟩ : ∃ ce, ce = compEnvC scope (cellsFrom (s3.heap.objs.size + 1) scope.names (cloFrom X.env.cells scope.names [])) s3.heap.objs.size X.env := ⟨_, rfl⟩
    have here : ce.locals = s3.heap.objs.size := by rw [ece]; rfl
    rw [← ece] at I4 g0 t0 k0 v0 ⊢
    obtain ⟨s4, es4⟩ : ∃ s4 : Shared, s4 = { s3 with heap := pushCells (s3.heap.push { cls := .type "dict", data := .dict #[] }) scope.names } := ⟨_, rfl⟩
    rw [← es4] at I4 ⊢
    have st4 : tn 0 s4.heap := T.keep _ _ _ st3 fun b _ o e => by rw [es4]; exact pushCells_keeps _ _ _ _ (Heap.get?_push_of_some _ e)
    have clear : ∀ b ∈ fp, H3 b = none := fun b m => (f3 b m).1.1
    have pinsOk : ∀ {σ' : MSt} {H' : Hp} {s' : Shared}, Inv (X.blk s3 H3 scope ce fp) [] σ' H' s' → (∀ b ∈ fp, H' b = none) → ∀ b ∈ fp, FpOk (X.blk s3 H3 scope ce fp) [] H' b := fun {_ _ _} J' n b m =>
      ⟨n b m, (J'.ok.exf b m).1, J'.ok.exfs b m, .inl m, fun x c e => (J'.ok.exf b m).2 x c e, fun p pm => absurd (show p ∈ ([] : List (Addr × Obj)) ++ [] from pm) (by simp)⟩
    have round : codeAny (model X.prog X.w) X.A (.compLoop (.DictComp kx vx [⟨tg, it, ifs, 0⟩] scope pos) 0 (.ref it2) (.ref D) ce) (compPost (model X.prog X.w) X.A X.xe use Qf (.ref D) s3.heap.objs.size) s4 := by
      refine compLoop_anyD (fun n s' => ∃ i H', Inv (X.blk s3 H3 scope ce fp) [] (wipe σ (own.map (·.2))) H' s' ∧ tn i s'.heap ∧ (∀ b ∈ fp, H' b = none) ∧ Z i n H') (fun n s5 ⟨i, H5, I5, st5, n5, w5⟩ => ?_) m0 ⟨0, H3, I4, st4, clear, z0⟩
      rcases turn i n H5 w5 with ⟨ends, qe⟩ | ⟨go, Next, later, step⟩
      · refine thnF (T.done (X.blk s3 H3 scope ce fp) rfl rfl rfl calm i [] s5 _ H5 (fun _ _ => False) I5 (pinsOk I5 n5) st5 ends) fun r s6 ⟨er, I6⟩ => ?_
        subst er
        have I7 : Inv X pins σ H5 s6 := I3.call' (ch := fp) I6.os I6.base I6.hok I6.bare fun b m => ⟨(f3 b m).1.2.2.2.1, (f3 b m).1.2.1, (f3 b m).1.2.2.2.2.1, (f3 b m).1.2.2.2.2.2⟩
        have none_ : H5 s3.heap.objs.size = none := by rw [← here]; exact I6.free
        obtain ⟨mm, ns, -⟩ := I6.loc
        exact after D s3.heap.objs.size s6 mm H5 I7 qe (by rw [← here]; exact ns) (I3.fpOk (Nat.le_refl _) none_)
      · refine thnF (T.item (X.blk s3 H3 scope ce fp) rfl rfl rfl calm i [] s5 _ H5 (fun _ _ => False) I5 (pinsOk I5 n5) st5 go) fun r s6 ⟨u, er, h6⟩ => ?_
        subst er
        refine thnF h6 fun _ s7 ⟨x, H7, I7, r7, y7, st7, n7⟩ => ?_
        have at7 := I7.pinned (pinsOk I7 n7) (T.obj _ _ st7)
        refine thnF (g0.run _ s7 _ H7 x u _ at7 r7 (step x H7 y7)) fun _ s8 ⟨σ8, H8, I8, same8, q8⟩ => thnF (t0.run _ s8 σ8 H8 _ I8 q8) fun b s9 ⟨H9, I9, q9⟩ => ?_
        have close : ∀ {s' : Shared} {H' : Hp}, Inv (X.blk s3 H3 scope ce fp) ([] ++ pinsAt fp s7.heap) σ8 H' s' → Next H' → ∃ m, m < n ∧ ∃ i H', Inv (X.blk s3 H3 scope ce fp) [] (wipe σ (own.map (·.2))) H' s' ∧ tn i s'.heap ∧ (∀ b ∈ fp, H' b = none) ∧ Z i m H' := fun {s' H'} J' nx => by
          obtain ⟨m', lt, w'⟩ := later H' nx
          have pin_ : ∀ b ∈ fp, ∀ o, s7.heap.get? b = some o → s'.heap.get? b = some o ∧ H' b = none := fun b m o e => let z := J'.pin (b, o) (List.mem_append_right _ (List.mem_append_right _ (mem_pinsAt m e))); ⟨z.1, z.2.1⟩
          have wl : (wipe σ (own.map (·.2))).length = σ8.length := by rw [← same8, wipe_length]
          exact ⟨m', lt, i + 1, H', (J'.unpinned (pins := [])).weak wl (fun j v e => by rw [← same8] at e; exact (wipe_some e).1), T.keep _ _ _ st7 fun b m o e => (pin_ b m o e).1, fun b m => let ⟨o, e, _⟩ := T.obj _ _ st7 b m; (pin_ b m o e).2, w'⟩
        cases b with
        | false => exact close I9 q9
        | true =>
          refine thnF (k0.run _ s9 σ8 H9 _ I9 q9) fun _ s10 ⟨yk, H10, I10, r10, q10⟩ => thnF (v0.run _ s10 σ8 H10 _ I10 q10) fun _ s11 ⟨yv, H11, I11, r11, o, put, nx⟩ => ?_
          exact (put (X.blk s3 H3 scope ce fp) _ σ8 s11 _ _ hK hP hw hu I11 r10 r11 _ _ fun s12 I12 => close I12 nx).1
    exact codeAny_compStart_dict round (T.self X.A 0 _ _ _ st4 round)
  subst es3
  exact goal_
theorem pe_dx {σ : MSt} (hK : X.K = G.K) (hP : X.prog = G.P) (hw : X.w = G.w) (hu : X.A.units + 64 < cLine) (calm : X.calm = true) (nd : X.N.Nodup) (pi : PI X tg it wi) (bo : BlkOk X.N X.env.scope scope own) (ok : DxOk X scope tg ifs kx vx g tt tk tv) (still : ∀ x, foldedSetIterable it X.env x = pure x) :
    PE X (.DictComp kx vx [⟨tg, it, ifs, 0⟩] scope pos) (tDx G wi g tt tk tv (own.map (·.2))) := by
  constructor
  intro pins s σ H Q I q0
  rw [arm_eval_DictComp]
  exact dx_core hK hP hw hu calm nd I pi bo ok still q0 fun D C s' m H' I' q ns ⟨f0, f1, f2, f3, f4, f5⟩ => ⟨m, ns, fun h2 sb => ⟨.ref D, H', I'.turned (t' := s'.toks) (fun b o hb e => (sb.2 b hb).trans e) f0 f1 f3 f4 f5, rfl, q⟩⟩
end

/-! ### len(d), list(d) -/
/-- a dict of any keys at a -/
def DAt (G : Gx) (ι : List Addr) (H : Hp) (a : Addr) (ks ws : List D) : Prop := ∃ o kvs vvs, H a = some o ∧ DO G a o kvs vvs ks ∧ VRs G ι H kvs ks ∧ VRs G ι H vvs ws
theorem call_lenX (hK : X.K = G.K) (hP : X.prog = G.P) (hw : X.w = G.w) : CallR X (.builtin "len") (fun xs H Q => ∃ a ι ks ws, xs = [.ref a] ∧ DAt G ι H a ks ws ∧ Q (.int ks.length) H) := by
  intro pins s σ H xs us Q I r ⟨a, ι, ks, ws, ex, ⟨o, kvs, vvs, ho, dd, q1, q2⟩, q⟩
  subst ex
  obtain ⟨u, rfl, rx⟩ := vals1 r
  obtain rfl : u = .ref a := rx
  have hl := q1.length
  cases dd with
  | flat l =>
    rw [List.length_map] at hl
    rw [← hl] at q
    exact d_len I (.inl ho) fun t s' I' => ⟨.int l.length, H, I', ⟨t, rfl⟩, q⟩
  | nest xs z1 z2 z3 z4 z5 =>
    rw [List.length_map] at hl
    obtain ⟨hs, ys, rel, m⟩ := nk_at hK hP hw I ho q1 z3 z4
    rw [← hl, rel.len] at q
    refine call_len_dictH hs m (by rw [← rel.len]; rw [sizeLine_eq] at z1; omega) ?_
    exact ⟨.int ys.length, H, I.tok _, ⟨_, rfl⟩, q⟩
theorem vals_refs : ∀ {ys : List (PySem.NestedKey × Addr × Value)} {us : List Value}, us.length = ys.length → (∀ (j : Nat) v, us[j]? = some v → ∃ y, ys[j]? = some y ∧ v = .ref y.2.1) → Vals (ys.map fun x => V.ref x.2.1) us
  | [], [], _, _ => .nil
  | y :: ys, u :: us, e, h => by
    refine .cons ?_ (vals_refs (by simpa using e) fun j v hj => ?_)
    · obtain ⟨z, h1, h2⟩ := h 0 u rfl
      cases h1
      exact h2
    · obtain ⟨z, h1, h2⟩ := h (j + 1) v (by simpa using hj)
      exact ⟨z, by simpa using h1, h2⟩
  | [], _ :: _, e, _ => by cases e
  | _ :: _, [], e, _ => by cases e
theorem call_listX (calm : X.calm = true) (hK : X.K = G.K) (hP : X.prog = G.P) (hw : X.w = G.w) : CallR X (.type "list") (fun xs H Q => ∃ a ι o kvs vvs ks, xs = [.ref a] ∧ H a = some o ∧ DO G a o kvs vvs ks ∧ VRs G ι H kvs ks ∧ ∀ p, H p = none → Q (.ref p) (upd H p (.lst kvs))) := by
  intro pins s σ H xs us Q I r ⟨a, ι, o, kvs, vvs, ks, ex, ho, dd, q1, q⟩
  subst ex
  cases dd with
  | flat l => exact call_listD calm pins s σ H _ us Q I r ⟨a, l, rfl, .inl ho, q⟩
  | nest xs z1 z2 z3 z4 z5 =>
    obtain ⟨u, rfl, rx⟩ := vals1 r
    obtain rfl : u = .ref a := rx
    obtain ⟨hs, ys, rel, m⟩ := nk_at hK hP hw I ho q1 z3 z4
    obtain ⟨es, ep, rw_, sz, at_⟩ := m.raw
    refine PySem.W.kdl_call (KdlSrc.rawDict (d := a) (es := es) (ep := ep) hs) (I.ok.hd calm) rw_ (by rw [sz, ← rel.len]; exact z1) fun h' tk acc c' keep new items => ?_
    have ev : Vals (xs.map fun x => V.ref x.2.1) acc.toList := by
      have e : (xs.map fun x => V.ref x.2.1) = ys.map fun x => V.ref x.2.1 := by
        have := congrArg (List.map V.ref) rel.keys.2
        rw [List.map_map, List.map_map] at this
        exact this
      rw [e]
      refine vals_refs (by rw [Array.length_toList, items.1, sz]) fun j v hj => ?_
      obtain ⟨hi, ev⟩ := items.2 j v (by rw [← Array.getElem?_toList]; exact hj)
      obtain ⟨y, h1, h2, -⟩ := at_ j hi
      exact ⟨y, h1, by rw [ev, h2]⟩
    refine ⟨.ref s.heap.objs.size, upd H s.heap.objs.size (.lst (xs.map fun x => V.ref x.2.1)), I.laid (t' := tk) keep (Nat.le_refl _) ⟨by rw [List.length_map]; exact z1, acc.toList, c', ev, by rw [Array.toArray_toList]; exact new⟩, rfl, q _ (I.hok.fresh (Nat.le_refl _))⟩
end Rx

/-! Rx2: sorted(a list of tuples of any shape). -/
namespace PySem.W
open PySem PySem.Calls PyProof.Rows
section
variable {prog : Program} {w : World} {A : Around} {E : Value → Shared → Prop} {s : Shared} {β : Type} {vs : List Value} {bs : List β} {enc : β → PyData} {R : Value → β → Prop}
/-- one thing alone -/
theorem SortsAt.one {ds : List PyData} (l : vs.length ≤ 1) (e : EachIs (fun v d => ∃ as, Reads s.heap v d as) vs ds) (hal : AllAlike ds) (hn : ∀ d ∈ ds, d ≠ .none) (hu : ∀ d, d ∈ ds → A.units + d.depth < cLine) : SortsAt prog w A s (dataKind s.heap ds) vs := by
  refine ⟨fun v hv => ?_, general', fun E x y a b Q ha hb hq => ?_, fun h2 => absurd h2 (by omega)⟩
  · obtain ⟨d, hd, as, r⟩ := e.left v hv
    exact ⟨_, dataKind_some hal hd r⟩
  · obtain ⟨d, as, hd, ra, rfl⟩ := dataKind_inv ha
    obtain ⟨d', as', hd', rb, rfl⟩ := dataKind_inv hb
    have k : keyLt' general' x y = oneLt' false x y := rfl
    rw [k]
    exact oneLt_alike (fun z => nomatch z) ra rb (hal d hd d' hd') (hn d hd) (Nat.lt_of_le_of_lt (Nat.add_le_add_left (Nat.min_le_left _ _) _) (hu d hd)) hq
theorem sorted_any {l : Addr} {Q : Value → Shared → Prop} (hl : s.heap.IsList l vs.toArray) (e : EachIs R vs bs) (er : EachIs (fun v b => ∃ as, Reads s.heap v (enc b) as) vs bs) (hal : AllAlike (bs.map enc)) (hk : Sortable (bs.map enc) ∨ (bs.length ≤ 1 ∧ ∀ d ∈ bs.map enc, d ≠ .none)) (hL : bs.length ≤ sizeLine)
    (hu : ∀ b, b ∈ bs → A.units + 2 + (enc b).depth < cLine) (h : ∀ out, out.length = bs.length → EachIs R out (bs.mergeSort (dataLe false enc)) → Q (.ref (s.heap.objs.size + 1)) { s with heap := sortedAll s.heap vs (List.toArray out) }) :
    wpAny (model prog w) A (call (.builtin "sorted") [.ref l]) Q E s := by
  have er' : EachIs (fun v b => ∃ as, Reads (sortingHeap (copyHeap s.heap vs) (s.heap.objs.size + 1) vs) v (enc b) as) vs bs := er.mono fun _ _ ⟨as, r⟩ => ⟨as, PyProof.Rows.Reads.keeps (fun _ _ => sorting_copy_old) r⟩
  have em := each_map (R := fun v d => ∃ as, Reads (sortingHeap (copyHeap s.heap vs) (s.heap.objs.size + 1) vs) v d as) enc er'
  have S : SortsAt prog w A.in1.in1 { s with heap := sortingHeap (copyHeap s.heap vs) (s.heap.objs.size + 1) vs } (dataKind (sortingHeap (copyHeap s.heap vs) (s.heap.objs.size + 1) vs) (bs.map enc)) vs := by
    rcases hk with hk | ⟨k1, k2⟩
    · exact SortsAt.data (s := { s with heap := sortingHeap (copyHeap s.heap vs) (s.heap.objs.size + 1) vs }) em hal hk (bound_map hu)
    · exact SortsAt.one (s := { s with heap := sortingHeap (copyHeap s.heap vs) (s.heap.objs.size + 1) vs }) (by rw [e.length]; exact k1) em hal k2 (bound_map hu)
  exact sorted_vals hl S (by rw [e.length]; exact hL) (h _ (by rw [sortVals_length false rfl]; exact e.length) (sortVals_data false e er' hal))
end
end PySem.W
namespace PySem
open PySem PySem.Calls PyProof.Rows
section
variable {prog : Program} {w : World} {A : Around} {E : Value → Shared → Prop} {s : Shared}
theorem sum_tupG {t : Addr} {xs : Array (Int × Tok)} {Q : Value → Shared → Prop} (hh : A.handled = none) (ht : s.heap.IsTuple t (intItems xs))
    (h : ∀ h' tk t', (∀ b o, s.heap.get? b = some o → h'.get? b = some o) → Q (.int (preSum (numAt xs) xs.size) t') { s with heap := h', toks := tk }) :
    wpAny (model prog w) A (call (.builtin "sum") [.ref t]) Q E s := by
  have lt : t < s.heap.objs.size := by obtain ⟨o, e, _⟩ := ht; exact Heap.lt_size e
  refine call_sum_walkG (wpAny_pyIter_tuple ht ?_)
  refine ⟨_, [_, t], [_], _, _, _, numAt xs, rfl, Walks.tuple (A := A.in1) hh _ t (Nat.ne_of_lt lt) (intItems xs), ⟨⟨_, Heap.get?_push_size _ rfl, rfl, rfl⟩, ht.push _⟩, fun c hc => ?_, (fun _ _ => intItems_at), fun h' tk t' hk => ?_⟩
  · show c < (s.heap.push _).objs.size
    rw [Heap.size_push]
    rcases List.mem_cons.mp hc with rfl | hc
    · exact Nat.lt_succ_self _
    · rcases List.mem_cons.mp hc with rfl | hc
      · exact Nat.lt_succ_of_lt lt
      · cases hc
  · have old : ∀ b o, s.heap.get? b = some o → h'.get? b = some o := fun b o e => by
      refine hk b o (fun hm => ?_) (Heap.get?_push_of_some _ e)
      rcases List.mem_cons.mp hm with e1 | hm
      · have := Heap.lt_size e
        rw [e1] at this; exact Nat.lt_irrefl _ this
      · cases hm
    have := h h' tk t' old
    simpa [intItems] using this
theorem sum_tup_raw {t : Addr} {its : List Value} {ns : List Int} {Q : Value → Shared → Prop} (hh : A.handled = none) (hl : s.heap.IsTuple t its.toArray) (hi : IntsAre its ns)
    (h : ∀ h' tk t', (∀ b o, s.heap.get? b = some o → h'.get? b = some o) → Q (.int ns.sum t') { s with heap := h', toks := tk }) : wpAny (model prog w) A (call (.builtin "sum") [.ref t]) Q E s := by
  obtain ⟨xs, e⟩ := hi.allInts.items
  have hn : numsOf (intItems xs).toList = ns := by rw [← e]; exact hi.numsOf
  rw [nums_intItems] at hn
  rw [e] at hl
  refine sum_tupG hh hl fun h' tk t' hk => ?_
  have := h h' tk t' hk
  rw [preSum_eq, List.take_of_length_le (by simp), hn]; exact this
end
end PySem
namespace Rx
open PySem L2
variable {G : Gx} {W : WX} {ι ι' : List Addr} {H H' : Hp} {h h' : Hq} {σ : MSt} {v : V} {d : D} {a : Addr}
variable {X : Cx} {pins : List (Addr × Obj)} {s : Shared}
def RI (G : Gx) (ι : List Addr) (H : Hp) (u : Value) (d : D) : Prop := ∃ v, RelV v u ∧ VR G ι H v d
theorem each_of : ∀ {vs : List V} {us : List Value} {ds : List D}, Vals vs us → VRs G ι H vs ds → PySem.W.EachIs (RI G ι H) us ds
  | _, _, _, .nil, .nil => .nil
  | _, _, _, .cons r t, .cons q w => .cons ⟨_, r, q⟩ (each_of t w)
theorem of_each : ∀ {us : List Value} {ds : List D}, PySem.W.EachIs (RI G ι H) us ds → ∃ vs, Vals vs us ∧ VRs G ι H vs ds
  | _, _, .nil => ⟨[], .nil, .nil⟩
  | _, _, .cons ⟨v, r, q⟩ t => by
    obtain ⟨vs, h1, h2⟩ := of_each t
    exact ⟨v :: vs, .cons r h1, .cons q h2⟩
theorem each_reads (hK : X.K = G.K) (I : Inv X pins σ H s) : ∀ {us : List Value} {ds : List D}, (∀ d ∈ ds, plain 50 d = true) → PySem.W.EachIs (RI G ι H) us ds → PySem.W.EachIs (fun u d => ∃ as, Reads s.heap u (toP d) as) us ds
  | _, _, _, .nil => .nil
  | _, _, p, .cons ⟨v, r, q⟩ t => .cons (Dp.reads I _ _ _ (by rw [hK]; exact VR.dp q (p _ (List.mem_cons_self ..))) r) (each_reads hK I (fun d m => p d (List.mem_cons_of_mem _ m)) t)
theorem sortG_call (hK : X.K = G.K) (u64 : X.A.units + 64 < cLine) (I : Inv X pins σ H s) {xs : List D} {vs : List V} (t : SqL X.K H a vs) (w : VRs G ι H vs xs) (ok : gsOk xs = true) {Q : VK} {E : Value → Shared → Prop}
    (q : ∀ ys p, H p = none → VRs G ι H ys (gsort xs) → Q (.ref p) (upd H p (.lst ys))) : wpAny (model X.prog X.w) X.A (call (.builtin "sorted") [.ref a]) (fun u s' => ∃ v H', Inv X pins σ H' s' ∧ RelV v u ∧ Q v H') E s := by
  unfold gsOk at ok
  simp only [Bool.and_eq_true, List.all_eq_true, Bool.or_eq_true, decide_eq_true_eq] at ok
  obtain ⟨⟨⟨o1, o2⟩, o3⟩, o4⟩ := ok
  obtain ⟨its, rv, hl, hz⟩ := I.list t
  have e := each_of (by simpa using rv) w
  have er := each_reads hK I o1 e
  have hal : PySem.W.AllAlike (xs.map toP) := by
    intro x hx y hy
    obtain ⟨a, ma, rfl⟩ := List.mem_map.mp hx
    obtain ⟨b, mb, rfl⟩ := List.mem_map.mp hy
    exact o2 a ma b mb
  have hk : PySem.W.Sortable (xs.map toP) ∨ (xs.length ≤ 1 ∧ ∀ d ∈ xs.map toP, d ≠ .none) := by
    rcases o3 with o3 | ⟨o3, o5⟩
    · refine .inl (.inl fun d hd => ?_)
      obtain ⟨x, mx, rfl⟩ := List.mem_map.mp hd
      unfold tupsB at o3
      rw [List.all_eq_true] at o3
      have := o3 x mx
      split at this
      · exact ⟨_, _, rfl⟩
      · cases this
    · refine .inr ⟨o3, fun d hd => ?_⟩
      obtain ⟨x, mx, rfl⟩ := List.mem_map.mp hd
      have := o5 x mx
      split at this
      · exact fun z => nomatch z
      · cases this
  have hL : xs.length ≤ sizeLine := by rw [sizeLine_eq]; omega
  refine PySem.W.sorted_any (enc := toP) hl.isList e er hal hk hL (fun b mb => ?_) fun out ho eo => ?_
  · have := (plain_lay (o1 b mb)).2
    omega
  · obtain ⟨ys, y1, y2⟩ := of_each eo
    obtain ⟨ep, he'⟩ := PyProof.Rows.sortedAll_at s.heap its (List.toArray out)
    have hlen : ys.length ≤ sizeLine := by rw [y1.length, ho]; exact hL
    exact ⟨.ref _, upd H (s.heap.objs.size + 1) (.lst ys), I.laid (t' := s.toks) (fun _ _ => PyProof.Rows.sortedAll_old) (Nat.le_succ _) ⟨hlen, out, ep, y1, he'⟩, rfl, q ys _ (I.hok.fresh (Nat.le_succ _)) y2⟩
end Rx

/-! RxS: set(a list of ints), and what is sorted of it. -/
namespace Rx
open PySem PySem.Spec PyProof.Rows L2
/-- a set of nothing -/
abbrev noSet (w : World) : Obj := { cls := .type "set", dict := none, data := .set #[] 0 (.fresh 0 0 (!w.params.followText "set-order")) }
section
variable {P : Program} {w : World} {A : Around} {E : Value → Shared → Prop} {s : Shared}
/-- where a new set of ns stands -/
def Setted (w : World) (s : Shared) (ns : List Int) (s2 : Shared) : Prop := ∃ h' tk c, s2 = { s with heap := h', toks := tk } ∧ SetR w h' s.heap.objs.size (fun j => decide (j ∈ ns)) c ∧ c ≤ ns.length ∧ ∀ b o, s.heap.get? b = some o → h'.get? b = some o
set_option maxHeartbeats 3200000 in
theorem set_ints {l : Addr} {items : Array Value} {ns : List Int} {Q : Value → Shared → Prop} (calm : A.handled = none) (hl : s.heap.IsList l items) (hi0 : IntsAre items.toList ns) (few : ns.length + 1 < scanBound)
    (fin : ∀ s2, Setted w s ns s2 → Q (.ref s.heap.objs.size) s2) : wpAny (model P w) A (call (.type "set") [.ref l]) Q E s := by
  have size : items.size = ns.length := by have q := hi0.length; rwa [Array.length_toList] at q
  obtain ⟨c, tl, hmro⟩ := F.called_set.mro
  have m1 := F.called_set.made
  have m2 := F.called_set.sub
  apply wpAny_call; apply codeAny_of_tree
  change wpAny _ _ (callAny (.type "set") _) _ _ _
  refine wpAny_pure ⟨Code.quiet_builtin _ (by decide +kernel), ?_⟩
  apply codeAny_builtin F.entry_type_call
  rw [Around.under_plain (weight_type_call_type "set" [.ref l] []) rfl]
  have m3 := F.called_set.notType
  have m4 := F.called_set.canCreate
  have m5 := F.typeCall_set_1 (.ref l)
  repeat (any_goals (first | assumption | wp_step))
  refine codeAny_mono (code_set_led1 (.ref l) (E := E) (Q₁ := fun v s1 => v = .ref s.heap.objs.size ∧ s1 = { s with heap := s.heap.push (noSet w) }) ⟨rfl, rfl⟩) ?_
  intro r s1 hr
  rcases r with e | fl
  · exact hr
  · cases fl with
    | ret v =>
      obtain ⟨rfl, rfl⟩ := hr
      have there : (s.heap.push (noSet w)).get? s.heap.objs.size = some (noSet w) := Heap.get?_push_size _ rfl
      have isSet : Shared.TypeIs { s with heap := s.heap.push (noSet w) } (.ref s.heap.objs.size) "set" := ⟨_, there, rfl⟩
      have i1 := F.called_set.init.lookup
      have i2 := F.called_set.init.bind (.ref s.heap.objs.size)
      repeat (any_goals (first | assumption | wp_step))
      refine codeAny_mono (codeAny_call_builtin (R := wants (fun v s2 => v = .none ∧ Setted w s ns s2) E) F.called_set.init.plain F.entry_set_init (check_set_init_1 isSet ?_)) ?_
      · obtain ⟨ol, ho, hc, n, hd⟩ := hl
        obtain ⟨oc, od, odt, osl⟩ := ol
        simp only at hc hd
        subst hc hd
        have ho1 : (s.heap.push (noSet w)).get? l = some { cls := .type "list", dict := od, data := .seq items n, slots := osl } := Heap.get?_push_of_some _ ho
        have n1 := F.sub_list_set
        have n2 := F.sub_list_frozenset
        have n3 : (Value.type "list" == Value.type "dict") = false := by decide
        have isL : (s.heap.push (noSet w)).IsList l items := ⟨_, ho1, rfl, n, rfl⟩
        unfold Builtin.«set.__init__» noKeywords Builtin.Frozenset.updateFrom
        generalize name : pyIter = it
        wp_walk
        subst name
        apply wpAny_pyIter_list isL
        apply wpAny_bind; apply wpAny_runValue
        have lt : l < s.heap.objs.size := Heap.lt_size ho
        have calm3 : A.in1.in1.in1.handled = none := by simp [calm]
        have sz : (s.heap.push (noSet w)).objs.size = s.heap.objs.size + 1 := Heap.size_push ..
        have apart : l ≠ (s.heap.push (noSet w)).objs.size := by rw [sz]; exact Nat.ne_of_lt (Nat.lt_succ_of_lt lt)
        have notIn : s.heap.objs.size ∉ [(s.heap.push (noSet w)).objs.size, l] := by
          rw [sz]
          intro m
          rcases List.mem_cons.mp m with z | m
          · exact Nat.ne_of_lt (Nat.lt_succ_self _) z
          · exact Nat.ne_of_gt lt (List.mem_singleton.mp m)
        have item : ∀ (i : Nat) (v : Value), items[i]? = some v → ∃ k t, ns[i]? = some k ∧ v = .int k t := by
          intro i v hv
          have hi : i < ns.length := by rw [← size]; exact (Array.getElem?_eq_some_iff.mp hv).1
          obtain ⟨t, e⟩ := hi0.int_at i v (by rw [Array.getElem?_toList]; exact hv)
          refine ⟨ns[i], t, by simp [hi], ?_⟩
          rw [e, List.getD_eq_getElem?_getD, List.getElem?_eq_getElem hi]; rfl
        have W := (Walks.list (prog := P) (w := w) calm3 _ l apart items).toS
        refine set_update_ints W s.heap.objs.size notIn ns size few item (items.size - 0) 0 _ (by omega) (Nat.zero_le _) ⟨⟨_, Heap.get?_push_size _ rfl, rfl, rfl⟩, isL.push _⟩ ⟨0, Nat.le_refl 0, setR_new_at (Heap.get?_push_of_some _ there)⟩ ?_
        rintro ⟨h', g2, d', tk', os'⟩ c' mv hc' R
        have eg : g2 = s.gens := mv.gens
        have ed : d' = s.drawn := mv.drawn
        have eo : os' = s.os := mv.os
        subst eg ed eo
        change wpAny _ _ _ _ _ _
        apply wpAny_pure
        change wpAny _ _ (ret Value.none) _ _ _
        rw [size] at hc'
        refine wpAny_pure ⟨rfl, h', tk', c', rfl, R, hc', fun b o e => ?_⟩
        have hb : b < s.heap.objs.size := Heap.lt_size e
        refine mv.heap b o ?_ (Heap.get?_push_of_some _ (Heap.get?_push_of_some _ e))
        rw [sz]
        intro m
        rcases List.mem_cons.mp m with z | m
        · exact Nat.ne_of_lt hb z
        · exact Nat.ne_of_lt (Nat.lt_succ_of_lt hb) (List.mem_singleton.mp m)
      · intro r2 s2 hr2
        rcases r2 with e2 | fl2
        · exact hr2
        · cases fl2 with
          | ret v2 =>
            obtain ⟨rfl, st2⟩ := hr2
            obtain ⟨h', tk, c', rfl, R, hc', keep⟩ := id st2
            repeat (any_goals (first | assumption | wp_step))
            exact fin _ st2
          | _ => exact hr2.elim
    | _ => exact hr.elim
end

def rSetI (K : PySem.W.Frag) (w : World) : List V → Hp → VK → Prop := fun xs H Q => ∃ (l : Addr) (ns : List Int), xs = [V.ref l] ∧ SqL K H l (ns.map V.int) ∧ ns.length < 64 ∧ ∀ a c, H a = none → c ≤ ns.length → Q (.ref a) (upd H a (SetO w a (fun j => decide (j ∈ ns)) c))
theorem cr_setI {X : Cx} (calm : X.calm = true) : CallR X (.type "set") (rSetI X.K X.w) := by
  intro pins s σ H xs us Q I rv q
  obtain ⟨l, ns, rfl, hs, few, q⟩ := q
  obtain ⟨its, rl, pl, -⟩ := I.list hs
  rw [Vals.ref1 rv]
  have fresh : H s.heap.objs.size = none := I.fresh
  refine set_ints (I.ok.hd calm) pl.isList (by simpa using rl.ints) (Nat.lt_of_lt_of_le (Nat.succ_lt_succ few) (by decide)) ?_
  rintro s2 ⟨h', tk, c, rfl, R, hc, keep⟩
  exact ⟨.ref s.heap.objs.size, upd H s.heap.objs.size (SetO X.w s.heap.objs.size (fun j => decide (j ∈ ns)) c), I.laid (t' := tk) keep (Nat.le_refl _) (setO_new R), rfl, q _ c fresh hc⟩
end Rx

/-! RxW: set(a tuple of tuples of ints). -/
namespace Rx
open PySem PySem.Spec PyProof.Rows L2
section
variable {P : Program} {w : World} {A : Around} {E : Value → Shared → Prop} {s : Shared}
/-- where a new set of the tuples ks stands -/
def SettedT (P : Program) (w : World) (s : Shared) (ks : List (Addr × List Int)) (s2 : Shared) : Prop := ∃ h' tk L es ep t, s2 = { s with heap := h', toks := tk } ∧ SetTR P w h' s.heap.objs.size L es ep t ∧ Got ks ks.length L ∧ ∀ b o, s.heap.get? b = some o → h'.get? b = some o
set_option maxHeartbeats 3200000 in
theorem set_tupT {l : Addr} {items : Array Value} {ks : List (Addr × List Int)} {Q : Value → Shared → Prop} (calm : A.handled = none) (hl : s.heap.IsTuple l items) (refs : items.toList = ks.map fun p => Value.ref p.1)
    (tups : ∀ p ∈ ks, IsT P w s.heap p.2 p.1) (few : ks.length < 64) (rm : A.units + 3 < cLine) (fin : ∀ s2, SettedT P w s ks s2 → Q (.ref s.heap.objs.size) s2) : wpAny (model P w) A (call (.type "set") [.ref l]) Q E s := by
  have size : items.size = ks.length := by rw [← Array.length_toList, refs, List.length_map]
  obtain ⟨c, tl, hmro⟩ := F.called_set.mro
  have m1 := F.called_set.made
  have m2 := F.called_set.sub
  apply wpAny_call; apply codeAny_of_tree
  change wpAny _ _ (callAny (.type "set") _) _ _ _
  refine wpAny_pure ⟨Code.quiet_builtin _ (by decide +kernel), ?_⟩
  apply codeAny_builtin F.entry_type_call
  rw [Around.under_plain (weight_type_call_type "set" [.ref l] []) rfl]
  have m3 := F.called_set.notType
  have m4 := F.called_set.canCreate
  have m5 := F.typeCall_set_1 (.ref l)
  repeat (any_goals (first | assumption | wp_step))
  refine codeAny_mono (code_set_led1 (.ref l) (E := E) (Q₁ := fun v s1 => v = .ref s.heap.objs.size ∧ s1 = { s with heap := s.heap.push (noSet w) }) ⟨rfl, rfl⟩) ?_
  intro r s1 hr
  rcases r with e | fl
  · exact hr
  · cases fl with
    | ret v =>
      obtain ⟨rfl, rfl⟩ := hr
      have there : (s.heap.push (noSet w)).get? s.heap.objs.size = some (noSet w) := Heap.get?_push_size _ rfl
      have isSet : Shared.TypeIs { s with heap := s.heap.push (noSet w) } (.ref s.heap.objs.size) "set" := ⟨_, there, rfl⟩
      have i1 := F.called_set.init.lookup
      have i2 := F.called_set.init.bind (.ref s.heap.objs.size)
      repeat (any_goals (first | assumption | wp_step))
      refine codeAny_mono (codeAny_call_builtin (R := wants (fun v s2 => v = .none ∧ SettedT P w s ks s2) E) F.called_set.init.plain F.entry_set_init (check_set_init_1 isSet ?_)) ?_
      · obtain ⟨ol, ho, hc, n, hd⟩ := hl
        obtain ⟨oc, od, odt, osl⟩ := ol
        simp only at hc hd
        subst hc hd
        have ho1 : (s.heap.push (noSet w)).get? l = some { cls := .type "tuple", dict := od, data := .seq items n, slots := osl } := Heap.get?_push_of_some _ ho
        have n1 := F.sub_tuple_set
        have n2 := F.sub_tuple_frozenset
        have n3 : (Value.type "tuple" == Value.type "dict") = false := by decide
        have isT : (s.heap.push (noSet w)).IsTuple l items := ⟨_, ho1, rfl, n, rfl⟩
        unfold Builtin.«set.__init__» noKeywords Builtin.Frozenset.updateFrom
        generalize name : pyIter = it
        wp_walk
        subst name
        apply wpAny_pyIter_tuple isT
        apply wpAny_bind; apply wpAny_runValue
        have lt : l < s.heap.objs.size := Heap.lt_size ho
        have calm3 : A.in1.in1.in1.handled = none := by simp [calm]
        have sz : (s.heap.push (noSet w)).objs.size = s.heap.objs.size + 1 := Heap.size_push ..
        have apart : l ≠ (s.heap.push (noSet w)).objs.size := by rw [sz]; exact Nat.ne_of_lt (Nat.lt_succ_of_lt lt)
        have notIn : s.heap.objs.size ∉ [(s.heap.push (noSet w)).objs.size, l] := by
          rw [sz]
          intro m
          rcases List.mem_cons.mp m with z | m
          · exact Nat.ne_of_lt (Nat.lt_succ_self _) z
          · exact Nat.ne_of_gt lt (List.mem_singleton.mp m)
        have item : ∀ (i : Nat) (v : Value), items[i]? = some v → ∃ p, ks[i]? = some p ∧ v = .ref p.1 := by
          intro i v hv
          rw [← Array.getElem?_toList, refs, List.getElem?_map, Option.map_eq_some_iff] at hv
          obtain ⟨p, hp, rfl⟩ := hv
          exact ⟨p, hp, rfl⟩
        have above : ∀ b, s.heap.objs.size ≤ b → s.heap.get? b = none := fun b hb => by
          cases q : s.heap.get? b with
          | none => rfl
          | some o => exact (Nat.not_lt.mpr hb (Heap.lt_size q)).elim
        have W := (Walks.tuple (prog := P) (w := w) calm3 _ l apart items).toS
        refine set_update_tups W s.heap.objs.size notIn ks size few item s.heap tups (above _ (Nat.le_refl _)) (fun b m => above b ?_) rm (items.size - 0) 0 _ (by omega) (Nat.zero_le _) ⟨⟨_, Heap.get?_push_size _ rfl, rfl, rfl⟩, isT.push _⟩ (fun b o e => Heap.get?_push_of_some _ (Heap.get?_push_of_some _ e)) ⟨[], #[], 0, _, setTR_fresh (Heap.get?_push_of_some _ there), Got.zero ks⟩ ?_
        · rw [List.mem_singleton.mp m, sz]; exact Nat.le_succ _
        rintro ⟨h', g2, d', tk', os'⟩ L es ep t mv R g kp
        have eg : g2 = s.gens := mv.gens
        have ed : d' = s.drawn := mv.drawn
        have eo : os' = s.os := mv.os
        subst eg ed eo
        rw [size] at g
        change wpAny _ _ _ _ _ _
        apply wpAny_pure
        change wpAny _ _ (ret Value.none) _ _ _
        exact wpAny_pure ⟨rfl, h', tk', L, es, ep, t, rfl, R, g, kp⟩
      · intro r2 s2 hr2
        rcases r2 with e2 | fl2
        · exact hr2
        · cases fl2 with
          | ret v2 =>
            obtain ⟨rfl, st2⟩ := hr2
            obtain ⟨h', tk, L, es, ep, t, rfl, R, g, keep⟩ := id st2
            repeat (any_goals (first | assumption | wp_step))
            exact fin _ st2
          | _ => exact hr2.elim
    | _ => exact hr.elim
end
/-- set(xs), xs a tuple of tuples of ints -/
def rSetTT (K : PySem.W.Frag) (P : Program) (w : World) : List V → Hp → VK → Prop := fun xs H Q => ∃ (l : Addr) (ks : List (Addr × List Int)), xs = [V.ref l] ∧ SqT K H l (ks.map fun p => V.ref p.1) ∧ (∀ p ∈ ks, SqT K H p.1 (p.2.map V.int)) ∧ ks.length < 64 ∧
  ∀ a L, H a = none → (∀ p ∈ L, p ∈ ks) → (∀ p ∈ ks, p.2 ∈ L.map (·.2)) → Q (.ref a) (upd H a (SetTO P w a L))
theorem cr_setTT {X : Cx} (calm : X.calm = true) (rm : X.A.units + 64 < cLine) : CallR X (.type "set") (rSetTT X.K X.prog X.w) := by
  rintro pins s σ H xs us Q I r ⟨l, ks, rfl, hl, hk, few, q⟩
  rw [Vals.ref1 r]
  obtain ⟨its, rv, pl, -⟩ := I.tuple hl
  refine set_tupT (P := X.prog) (w := X.w) (I.ok.hd calm) pl (by simpa using refs_of_vals rv) (fun p m => I.isT (hk p m)) few (by omega) fun s2 ⟨h', tk, L, es, ep, t, e, R, g, kp⟩ => ?_
  subst e
  exact ⟨.ref s.heap.objs.size, _, I.laid (t' := tk) kp (Nat.le_refl _) (setTO_new R.t0), rfl, q _ L (I.hok.fresh (Nat.le_refl _)) (fun p m => List.mem_of_mem_take (g.sub p m)) fun p m => g.all p (by rw [List.take_length]; exact m)⟩
end Rx

/-! RxF: calls of built-ins and of methods of lists. -/
namespace Rx
open PySem L2
variable {G : Gx} {W : WX} {cl : Cl} {k : Nat} {N : List Str} {sc : Scope} {st : List Str} {X : Cx}

def rC1 (G : Gx) (W : WX) (F : Hq → D → R D) : List V → Hp → VK → Prop := fun xs H Q => ∃ x, xs = [x] ∧ ∃ ι h d σ, HR G ι h H ∧ VR G ι H x d ∧ FinV G W ι H σ (F h d) Q
def rC2 (G : Gx) (W : WX) (F : Hq → D → D → R D) : List V → Hp → VK → Prop := fun xs H Q => ∃ x y, xs = [x, y] ∧ rB2 G W F x y H Q
theorem x_call1 {nm : Str} {id : String} {a : Expr} {ia : E} {ir : E} {F : Hq → D → R D} {p pos : Pos} (g : Gd G W k N sc st X) (ev : ∀ ρ h, evE cl ir ρ h = (evE cl ia ρ h).bind fun x h1 => F h1 x)
    (ha : PE X a (tE G W cl ia)) (pl : plainE a = true) (h : ∀ t, PA X [a] t → PE X (.Call (.Name nm p) [a] [] pos) (tCB (rC1 G W F) t)) : PE X (.Call (.Name nm p) [a] [] pos) (tE G W cl ir) := by
  refine PE.of (h _ (pa_cons ha pa_nil (star_cons pl))) ?_
  rintro σ H Q ⟨ι, ρ, q, er, rq, f⟩
  rw [ev] at f
  refine ⟨ι, ρ, q, er, rq, (FinV.bind f).imp ?_⟩
  rintro v H1 ⟨ι1, d1, h1, e1, r1, q1, -, f1⟩
  exact ⟨v, rfl, ι1, h1, d1, σ, r1, q1, f1⟩
theorem x_call2 {nm : Str} {a b : Expr} {ia ib : E} {ir : E} {F : Hq → D → D → R D} {p pos : Pos} (g : Gd G W k N sc st X) (ev : ∀ ρ h, evE cl ir ρ h = (evE cl ia ρ h).bind fun x h1 => (evE cl ib ρ h1).bind fun y h2 => F h2 x y)
    (ha : PE X a (tE G W cl ia)) (hb : PE X b (tE G W cl ib)) (pl : plainE a = true) (pl2 : plainE b = true) (h : ∀ t, PA X [a, b] t → PE X (.Call (.Name nm p) [a, b] [] pos) (tCB (rC2 G W F) t)) : PE X (.Call (.Name nm p) [a, b] [] pos) (tE G W cl ir) := by
  refine PE.of (h _ (pa_cons ha (pa_cons hb pa_nil (star_cons pl2)) (star_cons pl))) ?_
  rintro σ H Q ⟨ι, ρ, q, er, rq, f⟩
  rw [ev] at f
  refine ⟨ι, ρ, q, er, rq, (FinV.bind f).imp ?_⟩
  rintro v1 H1 ⟨ι1, d1, h1, e1, r1, q1, -, f1⟩
  refine ⟨ι1, ρ, h1, er.ext e1, r1, (FinV.bind f1).imp ?_⟩
  rintro v2 H2 ⟨ι2, d2, h2, e2, r2, q2, -, f2⟩
  exact ⟨v1, v2, rfl, ι2, h2, d1, d2, σ, r2, q1.ext e2, q2, f2⟩
/-- a built-in by its name -/
structure Bn (X : Cx) (nm : Str) (u : Value) : Prop where
  gl : Gl X nm
  no : X.mg nm = none
  bt : bootBuiltins nm = some u
  nn : nm ≠ "__name__"
  nd : (nm == ("__debug__" : Str)) = false
theorem call_bn {nm : Str} {id : String} {a : Expr} {es : List Expr} {r : List V → Hp → VK → Prop} {t : TA} {p pos : Pos} (b : Bn X nm (.builtin id)) (hc : CallR X (.builtin id) r) (ha : PA X (a :: es) t) (pl : plainE a = true) (ps : es.all plainE = true) :
    PE X (.Call (.Name nm p) (a :: es) [] pos) (tCB r t) := pe_callB hc b.gl b.no b.bt ha b.nn b.nd (star_cons pl) (star_none ps)
theorem call_ty {nm : Str} {id : String} {a : Expr} {es : List Expr} {r : List V → Hp → VK → Prop} {t : TA} {p pos : Pos} (b : Bn X nm (.type id)) (hc : CallR X (.type id) r) (ha : PA X (a :: es) t) (pl : plainE a = true) (ps : es.all plainE = true) :
    PE X (.Call (.Name nm p) (a :: es) [] pos) (tCB r t) := pe_callTy hc b.gl b.no b.bt ha b.nn b.nd (star_cons pl) (star_none ps)

theorem CallR.im {f : Value} {r r' : List V → Hp → VK → Prop} (h : CallR X f r) (i : ∀ xs H Q, r' xs H Q → r xs H Q) : CallR X f r' := fun pins s σ H xs us Q I rv q => h pins s σ H xs us Q I rv (i xs H Q q)
variable {ι : List Addr} {H : Hp} {h : Hq} {σ : MSt} {v : V} {d : D} {Q : VK}
theorem of_inv {α : Type} {o : Option α} {F : α → D} (f : FinV G W ι H σ (R.of (o.map F) h) Q) : ∃ a, o = some a ∧ FinV G W ι H σ (.ok (F a) h) Q := by
  cases o with
  | none => exact f.elim
  | some a => exact ⟨a, rfl, f⟩
theorem c_len (hK : X.K = G.K) (hP : X.prog = G.P) (hw : X.w = G.w) : CallR X (.builtin "len") (rC1 G W fun h d => b1D h .len d) := by
  refine CallR.im (call_len.or (call_lenX hK hP hw)) ?_
  rintro xs H Q ⟨x, rfl, ι, h, d, σ, r, q, f⟩
  obtain ⟨n, e, f⟩ := of_inv (show FinV G W ι H σ (R.of ((lenD h d).map fun n : Nat => D.int (n : Int)) h) Q from f)
  have fq := fin_same f r (VR.int _)
  unfold lenD at e
  split at e
  · rename_i ev
    cases e
    obtain ⟨a, vs, rfl, t, w⟩ := view_tup r q ev
    exact .inl ⟨_, _, rfl, .inr ⟨vs, by rw [hK]; exact t.sq, w.length.symm⟩, fq⟩
  · rename_i ev
    cases e
    obtain ⟨a, vs, rfl, t, w⟩ := view_lst r q ev
    exact .inl ⟨_, _, rfl, .inl ⟨vs, by rw [hK]; exact t, w.length.symm⟩, fq⟩
  · split at e
    · rename_i ev hf
      cases e
      rw [view_str q ev]
      exact .inl ⟨_, _, rfl, ⟨fits_le hf, rfl⟩, fq⟩
    · cases e
  · rename_i ks ws ev
    cases e
    obtain ⟨a, o, kvs, vvs, rfl, ho, dd, k1, k2⟩ := view_dct r q ev
    exact .inr ⟨a, ι, ks, ws, rfl, ⟨o, kvs, vvs, ho, dd, k1, k2⟩, fq⟩
  · cases e
theorem c_tuple (hK : X.K = G.K) : CallR X (.type "tuple") (rC1 G W fun h d => b1D h .tuple d) := by
  refine CallR.im call_tuple_of ?_
  rintro xs H Q ⟨x, rfl, ι, h, d, σ, r, q, f⟩
  obtain ⟨ys, e, f⟩ := of_inv (show FinV G W ι H σ (R.of ((seqOf h d).map .tup) h) Q from f)
  unfold seqOf at e
  split at e
  · rename_i ev
    cases e
    obtain ⟨a, vs, rfl, t, w⟩ := view_tup r q ev
    exact ⟨a, vs, rfl, .inr ⟨by rw [hK]; exact t.sq, fin_same f r (.tup t w)⟩⟩
  · rename_i ev
    cases e
    obtain ⟨a, vs, rfl, t, w⟩ := view_lst r q ev
    exact ⟨a, vs, rfl, .inl ⟨by rw [hK]; exact t, fun p np => fin_tup f r w np⟩⟩
  · cases e
theorem c_list (g : Gd G W k N sc st X) : CallR X (.type "list") (rC1 G W fun h d => b1D h .list d) := by
  have hK := g.hK
  refine CallR.im (call_list_of.or (call_listX (G := G) g.calm g.hK g.hP g.hw)) ?_
  rintro xs H Q ⟨x, rfl, ι, h, d, σ, r, q, f⟩
  have f : FinV G W ι H σ (match view h d with
    | .tup xs => .ok (.lst xs) h
    | .lst xs => .ok (.lst xs) h
    | .dct ks _ => .ok (.lst ks) h
    | _ => .er) Q := f
  split at f
  · rename_i ev
    obtain ⟨a, vs, rfl, t, w⟩ := view_tup r q ev
    exact .inl ⟨a, vs, rfl, .inr (by rw [hK]; exact t.sq), fun p np => fin_lst f r w np⟩
  · rename_i ev
    obtain ⟨a, vs, rfl, t, w⟩ := view_lst r q ev
    exact .inl ⟨a, vs, rfl, .inl (by rw [hK]; exact t), fun p np => fin_lst f r w np⟩
  · rename_i ks ws ev
    obtain ⟨a, o, kvs, vvs, rfl, ho, dd, k1, k2⟩ := view_dct r q ev
    exact .inr ⟨a, ι, o, kvs, vvs, ks, rfl, ho, dd, k1, fun p np => fin_lst f r k1 np⟩
  · exact f.elim
theorem c_listM (g : Gd G W k N sc st X) : CallR X (.type "list") (rC1 G W fun h d => b1D h .listM d) := by
  have hK := g.hK
  refine CallR.im (call_list_of.or (call_listX (G := G) g.calm g.hK g.hP g.hw)) ?_
  rintro xs H Q ⟨x, rfl, ι, h, d, σ, r, q, f⟩
  have f : FinV G W ι H σ (match view h d with
    | .tup xs => .ok (.ref h.length) (h ++ [.lst xs])
    | .lst xs => .ok (.ref h.length) (h ++ [.lst xs])
    | .dct ks _ => .ok (.ref h.length) (h ++ [.lst ks])
    | _ => .er) Q := f
  split at f
  · rename_i ev
    obtain ⟨a, vs, rfl, t, w⟩ := view_tup r q ev
    exact .inl ⟨a, vs, rfl, .inr (by rw [hK]; exact t.sq), fun p np => fin_lstM f r w np⟩
  · rename_i ev
    obtain ⟨a, vs, rfl, t, w⟩ := view_lst r q ev
    exact .inl ⟨a, vs, rfl, .inl (by rw [hK]; exact t), fun p np => fin_lstM f r w np⟩
  · rename_i ks ws ev
    obtain ⟨a, o, kvs, vvs, rfl, ho, dd, k1, k2⟩ := view_dct r q ev
    exact .inr ⟨a, ι, o, kvs, vvs, ks, rfl, ho, dd, k1, fun p np => fin_lstM f r k1 np⟩
  · exact f.elim
theorem c_abs : CallR X (.builtin "abs") (rC1 G W fun h d => b1D h .abs d) := by
  refine CallR.im call_abs ?_
  rintro xs H Q ⟨x, rfl, ι, h, d, σ, r, q, f⟩
  cases d <;> (try exact f.elim)
  rw [q.intD]
  exact ⟨_, rfl, fin_same f r (.int _)⟩
theorem c_int : CallR X (.type "int") (rC1 G W fun h d => b1D h .int d) := by
  refine CallR.im call_int1 ?_
  rintro xs H Q ⟨x, rfl, ι, h, d, σ, r, q, f⟩
  cases d <;> (try exact f.elim)
  · rw [q.blD]; exact .inr ⟨_, rfl, fin_same f r (.int _)⟩
  · rw [q.intD]; exact .inl ⟨_, rfl, fin_same f r (.int _)⟩
theorem allB_inv {vs : List V} : ∀ {xs : List D} {vs : List V} {bs : List Bool}, VRs G ι H vs xs → allB xs = some bs → vs = bs.map V.bl
  | [], _, _, w, e => by cases w; cases e; rfl
  | x :: xs, _, bs, w, e => by
    cases w with
    | cons q w =>
      cases x <;> (try (cases e; done))
      rename_i b
      have e : (allB xs).map (b :: ·) = some bs := e
      cases e2 : allB xs with
      | none => rw [e2] at e; cases e
      | some cs =>
        rw [e2] at e; cases e
        rw [q.blD, allB_inv (vs := vs) w e2]; rfl
theorem allI_inv {vs : List V} : ∀ {xs : List D} {vs : List V} {bs : List Int}, VRs G ι H vs xs → allI xs = some bs → vs = bs.map V.int
  | [], _, _, w, e => by cases w; cases e; rfl
  | x :: xs, _, bs, w, e => by
    cases w with
    | cons q w =>
      cases x <;> (try (cases e; done))
      rename_i b
      have e : (allI xs).map (b :: ·) = some bs := e
      cases e2 : allI xs with
      | none => rw [e2] at e; cases e
      | some cs =>
        rw [e2] at e; cases e
        rw [q.intD, allI_inv (vs := vs) w e2]; rfl
theorem c_all (g : Gd G W k N sc st X) : CallR X (.builtin "all") (rC1 G W fun h d => b1D h .all d) := by
  refine CallR.im (cr_all g.calm) ?_
  rintro xs H Q ⟨x, rfl, ι, h, d, σ, r, q, f⟩
  have f : FinV G W ι H σ (match view h d with
    | .lst xs => R.of ((allB xs).map fun bs => .bl (bs.all id)) h
    | _ => .er) Q := f
  split at f
  · rename_i ev
    obtain ⟨a, vs, rfl, t, w⟩ := view_lst r q ev
    obtain ⟨bs, e, f⟩ := of_inv f
    have := allB_inv (vs := vs) w e
    subst this
    exact ⟨a, bs, rfl, by rw [g.hK]; exact t, fin_same f r (.bl _)⟩
  · exact f.elim
theorem c_any (g : Gd G W k N sc st X) : CallR X (.builtin "any") (rC1 G W fun h d => b1D h .any d) := by
  refine CallR.im (cr_any g.calm) ?_
  rintro xs H Q ⟨x, rfl, ι, h, d, σ, r, q, f⟩
  have f : FinV G W ι H σ (match view h d with
    | .lst xs => R.of ((allB xs).map fun bs => .bl (bs.any id)) h
    | _ => .er) Q := f
  split at f
  · rename_i ev
    obtain ⟨a, vs, rfl, t, w⟩ := view_lst r q ev
    obtain ⟨bs, e, f⟩ := of_inv f
    have := allB_inv (vs := vs) w e
    subst this
    exact ⟨a, bs, rfl, by rw [g.hK]; exact t, fin_same f r (.bl _)⟩
  · exact f.elim
theorem c_sum (g : Gd G W k N sc st X) : CallR X (.builtin "sum") (rC1 G W fun h d => b1D h .sum d) := by
  intro pins s σ0 H xs us Q I rv q
  obtain ⟨x, rfl, ι, h, d, σ, r, q, f⟩ := q
  have f : FinV G W ι H σ (match view h d with
    | .lst xs => R.of ((allI xs).map fun bs => .int bs.sum) h
    | .tup xs => R.of ((allI xs).map fun bs => .int bs.sum) h
    | _ => .er) Q := f
  split at f
  · rename_i ev
    obtain ⟨a, vs, rfl, t, w⟩ := view_lst r q ev
    obtain ⟨bs, e, f⟩ := of_inv f
    have := allI_inv (vs := vs) w e
    subst this
    exact cr_sum g.calm pins s σ0 H _ us Q I rv ⟨a, bs, rfl, by rw [g.hK]; exact t, fin_same f r (.int _)⟩
  · rename_i ev
    obtain ⟨a, vs, rfl, t, w⟩ := view_tup r q ev
    obtain ⟨bs, e, f⟩ := of_inv f
    have := allI_inv (vs := vs) w e
    subst this
    obtain ⟨its, r2, hl, _⟩ := I.tuple (by rw [g.hK]; exact t.sq)
    rw [Vals.ref1 rv]
    exact PySem.sum_tup_raw (I.ok.hd g.calm) hl r2.ints fun h' tk t' hk => ⟨.int _, H, I.kept hk, ⟨_, rfl⟩, fin_same f r (.int _)⟩
  · exact f.elim
theorem c_min2 (g : Gd G W k N sc st X) : CallR X (.builtin "min") (rC2 G W fun h x y => R.of (b2D .min x y) h) := by
  refine CallR.im (call_min2 g.calm) ?_
  rintro xs H Q ⟨x, y, rfl, ι, h, d1, d2, σ, r, q1, q2, f⟩
  cases d1 <;> (try exact f.elim)
  cases d2 <;> (try exact f.elim)
  rw [q1.intD, q2.intD]
  exact ⟨_, _, rfl, fin_same f r (.int _)⟩
theorem c_max2 (g : Gd G W k N sc st X) : CallR X (.builtin "max") (rC2 G W fun h x y => R.of (b2D .max x y) h) := by
  refine CallR.im (call_max2 g.calm) ?_
  rintro xs H Q ⟨x, y, rfl, ι, h, d1, d2, σ, r, q1, q2, f⟩
  cases d1 <;> (try exact f.elim)
  cases d2 <;> (try exact f.elim)
  rw [q1.intD, q2.intD]
  exact ⟨_, _, rfl, fin_same f r (.int _)⟩

theorem call_reprD (hg : X.A.guards = some []) (hu : X.A.units + 64 < cLine) : CallR X (.builtin "repr") fun xs H Q => ∃ x d, xs = [x] ∧ Dp X.K H x d ∧ d.showable = true ∧ d.canLay0 = true ∧ d.depth ≤ 60 ∧ d.shown.length ≤ sizeLine ∧ Q (.str d.shown) H := by
  intro pins s σ H xs us Q I r q
  obtain ⟨x, d, rfl, hd, hs, hc, hp, hz, q⟩ := q
  obtain ⟨u, rfl, ru⟩ := vals1 r
  obtain ⟨as, rd⟩ := Dp.reads I d x u hd ru
  cases hd with
  | non => cases ru; exact PySem.P.repr_of_none ⟨.str _, H, I.tok _, ⟨_, rfl⟩, by simpa [PyData.shown] using q⟩
  | bl b =>
    cases ru
    refine PySem.P.repr_of_bool ⟨.str _, H, I.tok _, ⟨_, rfl⟩, ?_⟩
    cases b <;> simpa [PyData.shown] using q
  | int i =>
    obtain ⟨t, rfl⟩ := ru
    exact PySem.P.repr_of_int (of_decide_eq_true (by simpa [PyData.showable] using hs)) ⟨.str _, H, I.tok _, ⟨_, rfl⟩, by simpa [PyData.shown] using q⟩
  | str z =>
    obtain ⟨t, rfl⟩ := ru
    refine PySem.P.repr_of_str ⟨.str _, H, I.tok _, ⟨_, rfl⟩, by simpa [PyData.shown] using q⟩ (by simpa [PyData.shown] using hz)
  | lst a b =>
    cases ru
    exact repr_of_reads' rd hs (PyData.noDict_hsm (PyData.hasDict_of_canLay _ hc)) hg (by omega) (fun _ _ e => e) (fun h' u tk hk => ⟨.str _, H, I.kept hk, ⟨_, rfl⟩, q⟩) hz
  | tup a b =>
    cases ru
    exact repr_of_reads' rd hs (PyData.noDict_hsm (PyData.hasDict_of_canLay _ hc)) hg (by omega) (fun _ _ e => e) (fun h' u tk hk => ⟨.str _, H, I.kept hk, ⟨_, rfl⟩, q⟩) hz
mutual
theorem sml_short : ∀ d : D, sml d = true → (toP d).intsShort 13 = true ∧ (toP d).showable = true
  | .non, _ => by simp [toP, PyData.intsShort, PyData.showable]
  | .bl _, _ => by simp [toP, PyData.intsShort, PyData.showable]
  | .str _, _ => by simp [toP, PyData.intsShort, PyData.showable]
  | .int i, p => by
    have p : i.natAbs ≤ 999999999999 := by simpa [sml] using p
    refine ⟨?_, ?_⟩
    · have h13 : (PyData.shown (.int i)).length ≤ 13 := PyData.shown_int_le2 (by omega) (by omega)
      simpa [toP, PyData.intsShort] using h13
    · have : i.natAbs.log2 < 1920 := by
        by_cases e : i.natAbs = 0
        · rw [e]; decide
        · rw [Nat.log2_lt e]
          exact Nat.lt_of_le_of_lt p (Nat.lt_of_lt_of_le (by decide : 999999999999 < 2 ^ 40) (Nat.pow_le_pow_right (by decide) (by decide)))
      simpa [toP, PyData.showable] using this
  | .tup xs, p => by
    have := smls_short xs (by simpa [sml] using p)
    simpa [toP, PyData.intsShort, PyData.showable] using this
  | .lst xs, p => by
    have := smls_short xs (by simpa [sml] using p)
    simpa [toP, PyData.intsShort, PyData.showable] using this
  | .slst xs, p => by
    have := smls_short xs (by simpa [sml] using p)
    simpa [toP, PyData.intsShort, PyData.showable] using this
  | .dct _ _, _ => by simp [toP, PyData.intsShort, PyData.showable]
  | .ref _, _ => by simp [toP, PyData.intsShort, PyData.showable]
  | .clo _ _, _ => by simp [toP, PyData.intsShort, PyData.showable]
  | .hole, _ => by simp [toP, PyData.intsShort, PyData.showable]
theorem smls_short : ∀ ds : List D, smls ds = true → PyData.intsShortAll 13 (toPs ds) = true ∧ PyData.showableAll (toPs ds) = true
  | [], _ => by simp [toPs, PyData.intsShortAll, PyData.showableAll]
  | d :: ds, p => by
    have p : sml d = true ∧ smls ds = true := by simpa [smls] using p
    have h1 := sml_short d p.1
    have h2 := smls_short ds p.2
    simp [toPs, PyData.intsShortAll, PyData.showableAll, h1.1, h1.2, h2.1, h2.2]
end
theorem shw_ok {d : D} (h : shw d = true) : plain 60 d = true ∧ (toP d).showable = true ∧ (shown d).length ≤ sizeLine := by
  unfold shw at h
  simp only [Bool.and_eq_true, decide_eq_true_eq] at h
  obtain ⟨⟨h1, h2⟩, h3⟩ := h
  obtain ⟨s1, s2⟩ := sml_short d h2
  obtain ⟨l1, l2⟩ := plain_lay h1
  refine ⟨h1, s2, Nat.le_trans (PyProof.Rows.shown_le13 ?_ s1) (by decide)⟩
  show ((toP d).canLay0 && decide ((toP d).depth ≤ 64) && decide ((toP d).weight ≤ 2 ^ 20)) = true
  rw [l1, Bool.true_and, Bool.and_eq_true, decide_eq_true_eq, decide_eq_true_eq]
  exact ⟨by omega, h3⟩
theorem c_repr (g : Gd G W k N sc st X) : CallR X (.builtin "repr") (rC1 G W fun h d => b1D h .repr d) := by
  refine CallR.im (call_reprD g.rm.gd g.rm.u64) ?_
  rintro xs H Q ⟨x, rfl, ι, h, d, σ, r, q, f⟩
  have f : FinV G W ι H σ (if shw (view h d) then .ok (.str (shown (view h d))) h else .er) Q := f
  split at f
  · rename_i hc
    obtain ⟨h1, h2, h3⟩ := shw_ok hc
    obtain ⟨h4, h5⟩ := plain_lay h1
    exact ⟨x, _, rfl, by rw [g.hK]; exact view_dp r q h1, h2, h4, h5, h3, fin_same f r (.str _)⟩
  · exact f.elim
theorem c_strI : CallR X (.type "str") (rC1 G W fun h d => b1D h .str d) := by
  refine CallR.im (call_str_int.or SkE.call_str_str) ?_
  rintro xs H Q ⟨x, rfl, ι, h, d, σ, r, q, f⟩
  cases d <;> (try exact f.elim)
  · rename_i i
    have f : FinV G W ι H σ (if i.natAbs.log2 < 1920 then .ok (.str (toString i)) h else .er) Q := f
    split at f
    · rename_i hi
      rw [q.intD]
      exact .inl ⟨i, rfl, hi, fin_same f r (.str _)⟩
    · exact f.elim
  · rw [q.strD]
    exact .inr ⟨_, rfl, fin_same f r (.str _)⟩

/-! ### sorted -/
section
variable {α : Type} {le : α → α → Bool}
theorem ins_perm (x : α) : ∀ l : List α, (ins le x l).Perm (x :: l)
  | [] => .refl _
  | y :: ys => by
    unfold ins
    split
    · exact .refl _
    · exact ((ins_perm x ys).cons y).trans (.swap x y ys)
theorem srt_perm : ∀ l : List α, (srt le l).Perm l
  | [] => .refl _
  | x :: l => (ins_perm x (srt le l)).trans ((srt_perm l).cons x)
theorem ins_pw (tot : ∀ a b, le a b = true ∨ le b a = true) (tr : ∀ a b c, le a b = true → le b c = true → le a c = true) (x : α) : ∀ {l : List α}, l.Pairwise (fun a b => le a b = true) → (ins le x l).Pairwise fun a b => le a b = true
  | [], _ => by unfold ins; simp
  | y :: ys, p => by
    unfold ins
    rw [List.pairwise_cons] at p
    split
    · rename_i h
      rw [List.pairwise_cons]
      refine ⟨fun z m => ?_, List.pairwise_cons.mpr p⟩
      rcases List.mem_cons.mp m with rfl | m
      · exact h
      · exact tr _ _ _ h (p.1 z m)
    · rename_i h
      rw [List.pairwise_cons]
      refine ⟨fun z m => ?_, ins_pw tot tr x p.2⟩
      rcases List.mem_cons.mp ((ins_perm x ys).mem_iff.mp m) with rfl | m
      · exact (tot y z).resolve_right h
      · exact p.1 z m
theorem srt_pw (tot : ∀ a b, le a b = true ∨ le b a = true) (tr : ∀ a b c, le a b = true → le b c = true → le a c = true) : ∀ l : List α, (srt le l).Pairwise fun a b => le a b = true
  | [] => .nil
  | x :: l => ins_pw tot tr x (srt_pw tot tr l)
end
theorem srtI_eq {l l' : List Int} (p : l'.Perm l) (w : l'.Pairwise (· ≤ ·)) : l' = srtI l := by
  refine List.Perm.eq_of_pairwise (le := (· ≤ ·)) (fun a b _ _ h1 h2 => Int.le_antisymm h1 h2) w ?_ (p.trans (srt_perm l).symm)
  have := srt_pw (le := fun a b : Int => decide (a ≤ b)) (fun a b => by simp; omega) (fun a b c h1 h2 => by simp at h1 h2 ⊢; omega) l
  exact this.imp fun h => of_decide_eq_true h
theorem code_inj {B : Int} : ∀ {a b : List Int}, a.length = b.length → TS.Bd B a → TS.Bd B b → TS.code B a = TS.code B b → a = b
  | [], [], _, _, _, _ => rfl
  | [], _ :: _, h, _, _, _ => by cases h
  | _ :: _, [], h, _, _, _ => by cases h
  | d :: r, e :: q, h, h1, h2, hc => by
    have hl : r.length = q.length := by simpa using h
    rcases Int.lt_trichotomy d e with lt | eq | gt
    · have := TS.code_lt hl h1.tail h2.tail lt
      omega
    · subst eq
      have hc' : TS.code B r = TS.code B q := by
        have l1 : ¬ TS.code B r < TS.code B q := fun z => by have := (TS.code_same (B := B) (d := d) hl).mpr z; omega
        have l2 : ¬ TS.code B q < TS.code B r := fun z => by have := (TS.code_same (B := B) (d := d) hl.symm).mpr z; omega
        omega
      rw [code_inj hl h1.tail h2.tail hc']
    · have := TS.code_lt hl.symm h2.tail h1.tail gt
      omega
theorem fit_all {nss : List (List Int)} (h : tupFit nss = true) : ∃ d, 1 ≤ d ∧ nss.length < 64 ∧ ∀ ms ∈ nss, ms.length = d ∧ TS.Bd tB ms := by
  unfold tupFit at h
  cases nss with
  | nil => cases h
  | cons ns r =>
    simp only [Bool.and_eq_true, decide_eq_true_eq, List.all_eq_true] at h
    exact ⟨ns.length, h.1.1, h.1.2, fun ms m => ⟨(h.2 ms m).1, fun x hx => (h.2 ms m).2 x hx⟩⟩
theorem srtT_eq {l l' : List (List Int)} (f : tupFit l = true) (p : l'.Perm l) (w : l'.Pairwise fun a b => TS.code tB a ≤ TS.code tB b) : l' = srtT l := by
  obtain ⟨d, -, -, hd⟩ := fit_all f
  refine List.Perm.eq_of_pairwise (le := fun a b => TS.code tB a ≤ TS.code tB b) (fun a b ha hb h1 h2 => ?_) w ?_ (p.trans (srt_perm l).symm)
  · have ma := hd a (p.mem_iff.mp ha)
    have mb := hd b ((srt_perm l).mem_iff.mp hb)
    exact code_inj (ma.1.trans mb.1.symm) ma.2 mb.2 (Int.le_antisymm h1 h2)
  · have := srt_pw (le := fun a b : List Int => decide (TS.code tB a ≤ TS.code tB b)) (fun a b => by simp; omega) (fun a b c h1 h2 => by simp at h1 h2 ⊢; omega) l
    exact this.imp fun h => of_decide_eq_true h
theorem ints_back : ∀ {vs : List V} {ns : List Int}, VRs G ι H vs (ns.map D.int) → vs = ns.map V.int
  | _, [], .nil => rfl
  | _, n :: ns, .cons q qs => by rw [q.intD, ints_back (ns := ns) qs]; rfl
theorem ints_fwd : ∀ ns : List Int, VRs G ι H (ns.map V.int) (ns.map D.int)
  | [] => .nil
  | n :: ns => .cons (.int n) (ints_fwd ns)
theorem allI_map : ∀ {xs : List D} {ns : List Int}, allI xs = some ns → xs = ns.map D.int
  | [], _, e => by cases e; rfl
  | x :: xs, ns, e => by
    cases x <;> (try (cases e; done))
    have e : (allI xs).map (_ :: ·) = some ns := e
    cases e2 : allI xs with
    | none => rw [e2] at e; cases e
    | some cs =>
      rw [e2] at e; cases e
      rw [allI_map e2]; rfl
def tD (ns : List Int) : D := .tup (ns.map D.int)
theorem allT_map : ∀ {xs : List D} {nss : List (List Int)}, allT xs = some nss → xs = nss.map tD
  | [], _, e => by cases e; rfl
  | x :: xs, nss, e => by
    cases x <;> (try (cases e; done))
    rename_i ys
    have e : (match allI ys, allT xs with
      | some ns, some nss => some (ns :: nss)
      | _, _ => none) = some nss := e
    split at e
    · rename_i ns ms e1 e2
      cases e
      rw [allT_map e2, allI_map e1]; rfl
    · cases e
theorem tupI_of {ns : List Int} (q : VR G ι H v (tD ns)) : TupI G.K H v ns := by
  cases q with
  | tup t w =>
    refine ⟨_, rfl, ?_⟩
    have := ints_back w
    subst this
    exact t.sq
theorem perm_tD {ys vs : List V} (p : ys.Perm vs) : ∀ {nss : List (List Int)}, VRs G ι H vs (nss.map tD) → ∃ mss : List (List Int), VRs G ι H ys (mss.map tD) ∧ mss.Perm nss := by
  induction p with
  | nil => exact fun w => ⟨_, w, .refl _⟩
  | cons x p ih =>
    intro nss w
    cases nss with
    | nil => cases w
    | cons n nss =>
      cases w with
      | cons q qs =>
        obtain ⟨ms, h1, h2⟩ := ih qs
        exact ⟨n :: ms, .cons q h1, h2.cons n⟩
  | swap x y l =>
    intro nss w
    match nss, w with
    | n1 :: n2 :: nss, .cons q1 (.cons q2 qs) => exact ⟨n2 :: n1 :: nss, .cons q2 (.cons q1 qs), .swap _ _ _⟩
  | trans p q ih1 ih2 =>
    intro nss w
    obtain ⟨ms, h1, h2⟩ := ih2 w
    obtain ⟨ls, h3, h4⟩ := ih1 h1
    exact ⟨ls, h3, h4.trans h2⟩
theorem pw_tD {B : Int} : ∀ {ys : List V} {mss : List (List Int)}, VRs G ι H ys (mss.map tD) → ys.Pairwise (fun x y => ∀ n m, TupI G.K H x n → TupI G.K H y m → TS.code B n ≤ TS.code B m) → mss.Pairwise fun a b => TS.code B a ≤ TS.code B b
  | _, [], _, _ => .nil
  | _ :: ys, m :: mss, .cons q qs, p => by
    rw [List.pairwise_cons] at p ⊢
    refine ⟨fun b hb => ?_, pw_tD qs p.2⟩
    obtain ⟨i, hi, e⟩ := List.mem_iff_getElem.mp hb
    obtain ⟨u, h1, h2⟩ := qs.get (i := i) (d := tD b) (by simp [hi, e])
    exact p.1 u (List.mem_of_getElem? h1) _ _ (tupI_of q) (tupI_of h2)
theorem c_sorted (g : Gd G W k N sc st X) : CallR X (.builtin "sorted") (rC1 G W fun h d => b1D h .sorted d) := by
  intro pins s σ0 H xs us Q I rv q
  obtain ⟨x, rfl, ι, h, d, σ, r, q, f⟩ := q
  have f : FinV G W ι H σ (match view h d with
    | .lst xs => (match allI xs with
      | some ns => .ok (.lst ((srtI ns).map .int)) h
      | none => (match allT xs with
        | some nss => if tupFit nss then .ok (.lst ((srtT nss).map fun ns => .tup (ns.map .int))) h else if gsOk xs then .ok (.lst (gsort xs)) h else .er
        | none => if gsOk xs then .ok (.lst (gsort xs)) h else .er))
    | _ => .er) Q := f
  split at f
  · rename_i xs ev
    obtain ⟨a, vs, rfl, t, w⟩ := view_lst r q ev
    have gen : FinV G W ι H σ (if gsOk xs then .ok (.lst (gsort xs)) h else .er) Q → wpAny (model X.prog X.w) X.A (call (.builtin "sorted") us) (fun u s' => ∃ v H', Inv X pins σ0 H' s' ∧ RelV v u ∧ Q v H') X.xe s := fun f => by
      split at f
      · rename_i ok
        rw [Vals.ref1 rv]
        exact sortG_call g.hK g.rm.u64 I (by rw [g.hK]; exact t) w ok fun ys p np q => fin_lst f r q np
      · exact f.elim
    split at f
    · rename_i ns e
      have e1 := allI_map e
      subst e1
      have e2 := ints_back w
      subst e2
      refine cr_sortedI pins s σ0 H _ us Q I rv ⟨a, ns, rfl, by rw [g.hK]; exact t, fun ns' p pm pw np => ?_⟩
      have := srtI_eq pm pw
      subst this
      exact fin_lst f r (ints_fwd _) np
    · split at f
      · rename_i nss e
        split at f
        · rename_i hf
          have e1 := allT_map e
          subst e1
          obtain ⟨dd, d1, d2, d3⟩ := fit_all hf
          refine cr_sortT (d := dd) (B := tB) d1 pins s σ0 H _ us Q I rv ⟨a, vs, rfl, by rw [g.hK]; exact t, by rw [w.length, List.length_map]; exact d2, fun y hy => ?_, fun ys p pm pw np => ?_⟩
          · obtain ⟨i, hi, ei⟩ := List.mem_iff_getElem.mp hy
            have hi' : i < nss.length := by rw [w.length, List.length_map] at hi; exact hi
            obtain ⟨u, h1, h2⟩ := w.get (i := i) (d := tD nss[i]) (by simp [hi'])
            have : u = y := by
              rw [List.getElem?_eq_getElem hi] at h1
              cases h1; exact ei
            subst this
            rw [g.hK]
            exact ⟨nss[i], tupI_of h2, d3 _ (List.getElem_mem hi')⟩
          · obtain ⟨mss, h1, h2⟩ := perm_tD pm w
            rw [g.hK] at pw
            have := srtT_eq hf h2 (pw_tD h1 pw)
            subst this
            exact fin_lst f r h1 np
        · exact gen f
      · exact gen f
  · exact f.elim

/-! ### sorted(set(..)) -/
theorem once_mem {α : Type} [DecidableEq α] {x : α} : ∀ {l : List α}, x ∈ once l ↔ x ∈ l
  | [] => .rfl
  | y :: ys => by
    unfold once
    split
    · rename_i h
      rw [once_mem]
      refine ⟨fun m => List.mem_cons_of_mem _ m, fun m => ?_⟩
      rcases List.mem_cons.mp m with rfl | m
      · exact of_decide_eq_true h
      · exact m
    · rw [List.mem_cons, List.mem_cons, once_mem]
theorem once_nd {α : Type} [DecidableEq α] : ∀ l : List α, (once l).Nodup
  | [] => .nil
  | y :: ys => by
    unfold once
    split
    · exact once_nd ys
    · rename_i h
      exact List.nodup_cons.mpr ⟨fun m => h (decide_eq_true (once_mem.mp m)), once_nd ys⟩
theorem fit_once {l : List (List Int)} {d : Nat} (hd : ∀ ms ∈ l, ms.length = d ∧ TS.Bd tB ms) {l' : List (List Int)} (nd : l'.Nodup) (mem : ∀ x, x ∈ l' ↔ x ∈ l) (w : l'.Pairwise fun a b => TS.code tB a ≤ TS.code tB b) : l' = srtT (once l) := by
  have pm : l'.Perm (once l) := (List.perm_ext_iff_of_nodup nd (once_nd l)).mpr fun x => (mem x).trans once_mem.symm
  refine List.Perm.eq_of_pairwise (le := fun a b => TS.code tB a ≤ TS.code tB b) (fun a b ha hb h1 h2 => ?_) w ?_ (pm.trans (srt_perm (once l)).symm)
  · have ma := hd a ((mem a).mp ha)
    have mb := hd b (once_mem.mp ((srt_perm (once l)).mem_iff.mp hb))
    exact code_inj (ma.1.trans mb.1.symm) ma.2 mb.2 (Int.le_antisymm h1 h2)
  · have := srt_pw (le := fun a b : List Int => decide (TS.code tB a ≤ TS.code tB b)) (fun a b => by simp; omega) (fun a b c h1 h2 => by simp at h1 h2 ⊢; omega) (once l)
    exact this.imp fun h => of_decide_eq_true h
theorem srtI_once {l l' : List Int} (w : l'.Pairwise (· < ·)) (mem : ∀ x, x ∈ l' ↔ x ∈ l) : l' = srtI (once l) := by
  have nd : l'.Nodup := w.imp fun h => Int.ne_of_lt h
  exact srtI_eq ((List.perm_ext_iff_of_nodup nd (once_nd l)).mpr fun x => (mem x).trans once_mem.symm) (w.imp fun h => Int.le_of_lt h)
theorem keys_of : ∀ {vs : List V} {nss : List (List Int)}, VRs G ι H vs (nss.map tD) → ∃ ks : List (Addr × List Int), vs = ks.map (fun p => V.ref p.1) ∧ ks.map (·.2) = nss ∧ ∀ p ∈ ks, TQ G ι H p.1 (p.2.map V.int)
  | _, [], .nil => ⟨[], rfl, rfl, fun _ m => nomatch m⟩
  | _, n :: nss, .cons q qs => by
    obtain ⟨ks, e1, e2, e3⟩ := keys_of qs
    cases q with
    | tup t w =>
      rename_i a us
      have := ints_back w
      subst this
      refine ⟨(a, n) :: ks, by rw [e1]; rfl, by rw [← e2]; rfl, fun p m => ?_⟩
      rcases List.mem_cons.mp m with rfl | m
      · exact t
      · exact e3 p m
theorem TQ.up {p : Addr} {u : HO} {vs : List V} (np : H p = none) (q : TQ G ι H a vs) : TQ G ι (upd H p u) a vs := by
  rcases q with ⟨n, q⟩ | q
  · refine .inl ⟨n, ?_⟩
    rcases q with q | ⟨o, q⟩
    · exact .inl (by rw [upd_ne (ne_of_none q np)]; exact q)
    · exact .inr ⟨o, by rw [upd_ne (ne_of_none q np)]; exact q⟩
  · exact .inr q
theorem refs_tD : ∀ {L : List (Addr × List Int)}, (∀ p ∈ L, TQ G ι H p.1 (p.2.map V.int)) → VRs G ι H (L.map fun p => V.ref p.1) ((L.map (·.2)).map tD)
  | [], _ => .nil
  | p :: L, m => .cons (.tup (m p (by simp)) (ints_fwd _)) (refs_tD fun q hq => m q (by simp [hq]))
theorem sset_tail {ι : List Addr} {H : Hp} {h : Hq} {σ : MSt} {Q : VK} (hK : X.K = G.K) (r : HR G ι h H) {ks : List (Addr × List Int)} {nss : List (List Int)} (k2 : ks.map (·.2) = nss) (k3 : ∀ p ∈ ks, TQ G ι H p.1 (p.2.map V.int)) (hf : tupFit nss = true)
    (f : FinV G W ι H σ (.ok (.lst ((srtT (once nss)).map tD)) h) Q) {z : Addr} {L : List (Addr × List Int)} (nz : H z = none) (sub : ∀ p ∈ L, p ∈ ks) (cov : ∀ p ∈ ks, p.2 ∈ L.map (·.2)) : rSortedT X.K X.prog X.w [V.ref z] (upd H z (SetTO X.prog X.w z L)) Q := by
  obtain ⟨dd, c1, c2, c3⟩ := fit_all hf
  have inL : ∀ p ∈ L, p.2 ∈ nss := fun p m => by rw [← k2]; exact List.mem_map.mpr ⟨p, sub p m, rfl⟩
  refine ⟨z, L, dd, tB, rfl, upd_same, fun p m => by rw [hK]; exact ((k3 p (sub p m)).up nz).sq, c1, fun p m => c3 _ (inL p m), ?_⟩
  intro L' y pm nd _ pw ny
  have np1 : ∀ p ∈ L', TQ G ι (upd H z (SetTO X.prog X.w z L)) p.1 (p.2.map V.int) := fun p m => (k3 p (sub p (pm.mem_iff.mp m))).up nz
  have key : L'.map (·.2) = srtT (once nss) := by
    refine fit_once c3 nd (fun x => ?_) (List.pairwise_map.mpr pw)
    constructor
    · intro m
      obtain ⟨p, hp, rfl⟩ := List.mem_map.mp m
      exact inL p (pm.mem_iff.mp hp)
    · intro m
      rw [← k2] at m
      obtain ⟨p, hp, rfl⟩ := List.mem_map.mp m
      obtain ⟨p', hp', e'⟩ := List.mem_map.mp (cov p hp)
      exact List.mem_map.mpr ⟨p', pm.mem_iff.mpr hp', e'⟩
  have r2 := r.laid (u := SetTO X.prog X.w z L) nz
  have f2 : FinV G W ι (upd H z (SetTO X.prog X.w z L)) σ (.ok (.lst ((srtT (once nss)).map tD)) h) Q := FinV.ext f (Ext.laid r nz)
  rw [← key] at f2
  exact fin_lst f2 r2 (refs_tD np1) ny
theorem x_sset {a : Expr} {ia : E} {p1 p2 pos1 pos : Pos} (g : Gd G W k N sc st X) (b1 : Bn X "sorted" (.builtin "sorted")) (b2 : Bn X "set" (.type "set")) (ha : PE X a (tE G W cl ia)) (pl : plainE a = true) :
    PE X (.Call (.Name "sorted" p1) [.Call (.Name "set" p2) [a] [] pos1] [] pos) (tE G W cl (.b1 .sset ia)) := by
  have inner := call_ty b2 (((cr_setI g.calm).or (cr_setOfT g.calm g.rm.u64)).or (cr_setTT g.calm g.rm.u64)) (pa_cons ha pa_nil (star_cons pl)) (p := p2) (pos := pos1) pl rfl
  have outer := call_bn b1 ((cr_sortedSet g.calm).or (cr_sortedT g.calm)) (pa_cons inner pa_nil (star_cons rfl)) (p := p1) (pos := pos) rfl rfl
  refine PE.of outer ?_
  rintro σ H Q ⟨ι, ρ, q, er, rq, f⟩
  have f : FinV G W ι H σ ((evE cl ia ρ q).bind fun x h1 => b1D h1 .sset x) Q := f
  refine ⟨ι, ρ, q, er, rq, (FinV.bind f).imp ?_⟩
  rintro v H1 ⟨ι1, d1, h1, e1, r1, q1, -, f1⟩
  have f1 : FinV G W ι1 H1 σ (match view h1 d1 with
    | .lst xs => (match allI xs with
      | some ns => if ns.length < 64 then .ok (.lst ((srtI (once ns)).map .int)) h1 else .er
      | none => (match allT xs with
        | some nss => if tupFit nss then .ok (.lst ((srtT (once nss)).map fun ns => .tup (ns.map .int))) h1 else .er
        | none => .er))
    | .tup xs => (match allT xs with
      | some nss => if tupFit nss then .ok (.lst ((srtT (once nss)).map fun ns => .tup (ns.map .int))) h1 else .er
      | none => .er)
    | _ => .er) Q := f1
  split at f1
  · rename_i xs ev
    obtain ⟨l, vs, rfl, t, w⟩ := view_lst r1 q1 ev
    split at f1
    · rename_i ns e
      split at f1
      · rename_i hf
        have e2 := allI_map e
        subst e2
        have e3 := ints_back w
        subst e3
        refine .inl (.inl ⟨l, ns, rfl, by rw [g.hK]; exact t, hf, fun z c nz hc => .inl ⟨z, _, c, rfl, upd_same, by omega, ?_⟩⟩)
        intro ns' y pw mem _ ny
        have key := srtI_once (l := ns) pw fun x => (mem x).trans (by simp)
        have r2 := r1.laid (u := SetO X.w z (fun j => decide (j ∈ ns)) c) nz
        have f2 : FinV G W ι1 (upd H1 z (SetO X.w z (fun j => decide (j ∈ ns)) c)) σ (.ok (.lst ((srtI (once ns)).map .int)) h1) Q := FinV.ext f1 (Ext.laid r1 nz)
        rw [← key] at f2
        exact fin_lst f2 r2 (ints_fwd _) ny
      · exact f1.elim
    split at f1
    · rename_i nss e
      split at f1
      · rename_i hf
        have e2 := allT_map e
        subst e2
        obtain ⟨ks, k1, k2, k3⟩ := keys_of w
        subst k1
        have kl : ks.length < 64 := by
          obtain ⟨dd, c1, c2, c3⟩ := fit_all hf
          rw [← k2, List.length_map] at c2; exact c2
        refine .inl (.inr ⟨l, ks, rfl, by rw [g.hK]; exact t, fun p m => by rw [g.hK]; exact (k3 p m).sq, kl, fun z L nz sub cov => .inr (sset_tail g.hK r1 k2 k3 hf f1 nz sub cov)⟩)
      · exact f1.elim
    · exact f1.elim
  · rename_i xs ev
    obtain ⟨l, vs, rfl, t, w⟩ := view_tup r1 q1 ev
    split at f1
    · rename_i nss e
      split at f1
      · rename_i hf
        have e2 := allT_map e
        subst e2
        obtain ⟨ks, k1, k2, k3⟩ := keys_of w
        subst k1
        have kl : ks.length < 64 := by
          obtain ⟨dd, c1, c2, c3⟩ := fit_all hf
          rw [← k2, List.length_map] at c2; exact c2
        exact .inr ⟨l, ks, rfl, by rw [g.hK]; exact t.sq, fun p m => by rw [g.hK]; exact (k3 p m).sq, kl, fun z L nz sub cov => .inr (sset_tail g.hK r1 k2 k3 hf f1 nz sub cov)⟩
      · exact f1.elim
    · exact f1.elim
  · exact f1.elim

/-! ### methods of lists -/
def rM0 (G : Gx) (W : WX) (F : Hq → D → R D) : V → List V → Hp → VK → Prop := fun x xs H Q => xs = [] ∧ ∃ ι h d σ, HR G ι h H ∧ VR G ι H x d ∧ FinV G W ι H σ (F h d) Q
def rM1 (G : Gx) (W : WX) (F : Hq → D → D → R D) : V → List V → Hp → VK → Prop := fun x xs H Q => ∃ y, xs = [y] ∧ rB2 G W F x y H Q
theorem MtR.im {id : String} {r r' : V → List V → Hp → VK → Prop} (h : MtR X id r) (i : ∀ x xs H Q, r' x xs H Q → r x xs H Q) : MtR X id r' := fun pins s σ H x xs v us Q I rx rv q => h pins s σ H x xs v us Q I rx rv (i x xs H Q q)
/-- a list at a place -/
theorem lst_at {i : Nat} {xs : List D} (r : HR G ι h H) (q : VR G ι H v (.ref i)) (e : h[i]? = some (.lst xs)) : ∃ l vs, v = .ref l ∧ ι[i]? = some l ∧ H l = some (.lst vs) ∧ VRs G ι H vs xs := by
  cases q with
  | ref hp =>
    cases r.at_ i _ _ e hp with
    | lst q1 q2 => exact ⟨_, _, rfl, hp, q1, q2⟩
theorem lstAt_inv {xs : List D} (r : HR G ι h H) (q : VR G ι H v d) (e : lstAt h d = some xs) : ∃ i l vs, d = .ref i ∧ v = .ref l ∧ h[i]? = some (.lst xs) ∧ ι[i]? = some l ∧ H l = some (.lst vs) ∧ VRs G ι H vs xs := by
  cases d <;> try (cases e; done)
  rename_i i
  have e : (match h[i]? with
    | some (.lst xs) => some xs
    | _ => none) = some xs := e
  split at e
  · rename_i ys q2
    cases e
    obtain ⟨l, vs, h1, h2, h3, h4⟩ := lst_at r q q2
    exact ⟨i, l, vs, rfl, h1, q2, h2, h3, h4⟩
  · cases e
theorem dctAt_inv {kv : List D × List D} (r : HR G ι h H) (q : VR G ι H v d) (e : dctAt h d = some kv) : ∃ i l o kvs vvs, d = .ref i ∧ v = .ref l ∧ h[i]? = some (.dct kv.1 kv.2) ∧ ι[i]? = some l ∧ H l = some o ∧ DO G l o kvs vvs kv.1 ∧ VRs G ι H kvs kv.1 ∧ VRs G ι H vvs kv.2 := by
  cases d <;> try (cases e; done)
  rename_i i
  have e : (match h[i]? with
    | some (.dct ks vs) => some (ks, vs)
    | _ => none) = some kv := e
  split at e
  · rename_i ks vs q2
    cases e
    cases q with
    | ref hi =>
      rename_i l
      cases r.at_ i _ l q2 hi with
      | dct a b c d => exact ⟨i, l, _, _, _, rfl, rfl, q2, hi, a, b, c, d⟩
  · cases e
theorem fin_writeD {i : Nat} {l : Addr} {o : HO} {kvs vvs : List V} {ks vs : List D} {d : D} {v : V} (f : FinV G W ι H σ (.ok d (h.set i (.dct ks vs))) Q) (r : HR G ι h H) (hi : ι[i]? = some l) (z : DO G l o kvs vvs ks) (q1 : VRs G ι H kvs ks) (q2 : VRs G ι H vvs vs) (qd : VR G ι H v d) : Q v (upd H l o) := by
  have ex : Ext ι H ι (upd H l o) := Ext.write (List.mem_of_getElem? hi)
  exact f ι _ v ex (r.write hi (.dct upd_same z (q1.ext ex) (q2.ext ex))) (qd.ext ex)
theorem VRs.dropLast : ∀ {vs : List V} {xs : List D}, VRs G ι H vs xs → VRs G ι H vs.dropLast xs.dropLast
  | _, _, .nil => .nil
  | _, _, .cons _ .nil => .nil
  | _, _, .cons r (.cons q t) => .cons r (VRs.dropLast (.cons q t))
theorem VRs.eraseIdx : ∀ {vs : List V} {xs : List D} (i : Nat), VRs G ι H vs xs → VRs G ι H (vs.eraseIdx i) (xs.eraseIdx i)
  | _, _, _, .nil => .nil
  | _, _, 0, .cons _ t => t
  | _, _, i + 1, .cons r t => .cons r (VRs.eraseIdx i t)
theorem VRs.reverse {vs : List V} {xs : List D} (w : VRs G ι H vs xs) : VRs G ι H vs.reverse xs.reverse := by
  induction vs generalizing xs with
  | nil => cases w; exact .nil
  | cons v vs ih =>
    cases w with
    | cons r t => rw [List.reverse_cons, List.reverse_cons]; exact (ih t).append (.cons r .nil)
theorem natIx_seq {n m : Nat} {i : Int} (h : natIx n i = some m) : seqIndex? i n = some m := by
  unfold natIx at h
  unfold seqIndex?
  by_cases h0 : 0 ≤ i
  · rw [if_pos h0] at h
    split at h
    · cases h
      have e : (if i < 0 then i + (n : Int) else i) = i := if_neg (by omega)
      dsimp only
      rw [e, if_pos (by simp; omega)]
    · cases h
  · rw [if_neg h0] at h
    split at h
    · cases h
      have e : (if i < 0 then i + (n : Int) else i) = i + n := if_pos (by omega)
      dsimp only
      rw [e, if_pos (by simp; omega)]
      congr 1; omega
    · cases h
theorem fin_write {i : Nat} {l : Addr} {vs : List V} {xs : List D} {d : D} {v : V} (f : FinV G W ι H σ (.ok d (h.set i (.lst xs))) Q) (r : HR G ι h H) (hi : ι[i]? = some l) (q : VRs G ι H vs xs) (qd : VR G ι H v d) : Q v (upd H l (.lst vs)) := by
  have ex : Ext ι H ι (upd H l (.lst vs)) := Ext.write (List.mem_of_getElem? hi)
  exact f ι _ v ex (r.write hi (.lst upd_same (q.ext ex))) (qd.ext ex)

theorem few {a : Expr} {env : Env} {cpos : Pos} (pl : plainE a = true) : ((backTo cpos (starEach [a] env)).all (fun x => !x.1) && (backToKw cpos (keywordEach [] env)).all (fun x => x.1.isSome)
      && decide (([a] : List Expr).length + ([] : List Keyword).length + (if ([] : List Keyword).isEmpty then 0 else 1) < 30)) = true := by
  rw [star_cons pl]; rfl
theorem x_meth1 {o a : Expr} {io ia : E} {m : Bm} {name : Str} {id : String} {p pos : Pos} (g : Gd G W k N sc st X) (ho : PE X o (tE G W cl io)) (ha : PE X a (tE G W cl ia)) (po : plainO o = true) (pl : plainE a = true)
    (hl : (p.endLine == pos.line) = true) (slot : Slot "list" name id) (hty : typeOf (.builtin id) = pure (.type "method_descriptor"))
    (isl : ∀ h d, bmOk h m d = true → ∃ xs, lstAt h d = some xs)
    (hm : MtR X id (rM1 G W fun h a b => bmD h m a [b])) : PE X (.Call (.Attribute o name p) [a] [] pos) (tE G W cl (.bm m io (.cons ia .nil))) := by
  refine PE.of (pe_bm PySem.F.plainAttrs_list slot hty hm ho (pa_cons ha pa_nil (star_cons pl)) (baseO po) (few pl) hl (star_cons pl) rfl) ?_
  rintro σ H Q ⟨ι, ρ, q, er, rq, f⟩
  refine ⟨ι, ρ, q, er, rq, (FinV.bind f).imp ?_⟩
  rintro v H1 ⟨ι1, d1, h1, e1, r1, q1, -, f1⟩
  have f1 : FinV G W ι1 H1 σ (if bmOk h1 m d1 then (evEs cl (.cons ia .nil) ρ h1).bind fun ds h2 => bmD h2 m d1 ds else .er) Q := f1
  split at f1
  · rename_i hok
    obtain ⟨xs, hx⟩ := isl _ _ hok
    obtain ⟨i, l, vs, rfl, rfl, h2, h3, h4, h5⟩ := lstAt_inv r1 q1 hx
    refine ⟨.inl ⟨rfl, vs, ?_⟩, ι1, ρ, h1, er.ext e1, r1, ?_⟩
    · exact .inl (.inl h4)
    · have f1 : FinV G W ι1 H1 σ (((evE cl ia ρ h1).bind fun x h2 => R.ok [x] h2).bind fun ds h2 => bmD h2 m (.ref i) ds) Q := f1
      rw [R.bind_assoc] at f1
      refine (FinV.bind f1).imp ?_
      rintro v2 H2 ⟨ι2, d2, h2, e2, r2, q2, -, f2⟩
      exact ⟨v2, rfl, ι2, h2, .ref i, d2, σ, r2, q1.ext e2, q2, f2⟩
  · exact f1.elim
theorem x_meth0 {o : Expr} {io : E} {m : Bm} {name : Str} {id : String} {p pos : Pos} (g : Gd G W k N sc st X) (ho : PE X o (tE G W cl io)) (po : plainO o = true)
    (hl : (p.endLine == pos.line) = true) (slot : Slot "list" name id) (hty : typeOf (.builtin id) = pure (.type "method_descriptor"))
    (isl : ∀ h d, bmOk h m d = true → ∃ xs, lstAt h d = some xs)
    (hm : MtR X id (rM0 G W fun h a => bmD h m a [])) : PE X (.Call (.Attribute o name p) [] [] pos) (tE G W cl (.bm m io .nil)) := by
  refine PE.of (pe_bm0 PySem.F.plainAttrs_list slot hty hm ho (baseO po) hl) ?_
  rintro σ H Q ⟨ι, ρ, q, er, rq, f⟩
  refine ⟨ι, ρ, q, er, rq, (FinV.bind f).imp ?_⟩
  rintro v H1 ⟨ι1, d1, h1, e1, r1, q1, -, f1⟩
  have f1 : FinV G W ι1 H1 σ (if bmOk h1 m d1 then bmD h1 m d1 [] else .er) Q := f1
  split at f1
  · rename_i hok
    obtain ⟨xs, hx⟩ := isl _ _ hok
    obtain ⟨i, l, vs, rfl, rfl, h2, h3, h4, h5⟩ := lstAt_inv r1 q1 hx
    exact ⟨.inl ⟨rfl, vs, .inl (.inl h4)⟩, rfl, ι1, h1, .ref i, σ, r1, q1, f1⟩
  · exact f1.elim
theorem m_append : MtR X "list.append" (rM1 G W fun h a b => bmD h .append a [b]) := by
  refine MtR.im (r := rAppend) mt_append ?_
  rintro x xs H Q ⟨y, rfl, ι, h, d1, d2, σ, r, q1, q2, f⟩
  cases d1 <;> try exact f.elim
  rename_i i
  have f : FinV G W ι H σ (match lstAt h (.ref i) with
    | some xs => if xs.length < sizeLine then .ok .non (h.set i (.lst (xs ++ [d2]))) else .er
    | _ => .er) Q := f
  split at f
  · rename_i xs ex
    obtain ⟨i, l, vs, e, rfl, h2, h3, h4, h5⟩ := lstAt_inv r q1 ex
    cases e
    split at f
    · rename_i hz
      refine ⟨l, vs, y, rfl, rfl, h4, by rw [h5.length]; exact hz, fin_write f r h3 (h5.append (.cons q2 .nil)) .non⟩
    · exact f.elim
  · exact f.elim
theorem m_extend : MtR X "list.extend" (rM1 G W fun h a b => bmD h .extend a [b]) := by
  refine MtR.im (r := rExtend) mt_extend ?_
  rintro x xs H Q ⟨y, rfl, ι, h, d1, d2, σ, r, q1, q2, f⟩
  cases d1 <;> try exact f.elim
  rename_i i
  have f : FinV G W ι H σ (match lstAt h (.ref i), viewM h d2 with
    | some xs, .lst ys => if fits (xs.length + ys.length) then .ok .non (h.set i (.lst (xs ++ ys))) else .er
    | _, _ => .er) Q := f
  split at f
  · rename_i xs ys ex ey
    obtain ⟨i, l, vs, e, rfl, h2, h3, h4, h5⟩ := lstAt_inv r q1 ex
    cases e
    obtain ⟨b, ws, rfl, hb, w⟩ := viewM_lst r q2 ey
    split at f
    · rename_i hz
      refine ⟨l, b, vs, ws, rfl, rfl, h4, hb, by rw [h5.length, w.length]; exact fits_le hz, fin_write f r h3 (h5.append w) .non⟩
    · exact f.elim
  · exact f.elim
theorem m_pop : MtR X "list.pop" (rM0 G W fun h a => bmD h .pop a []) := by
  refine MtR.im (r := rPop) mt_pop ?_
  rintro x xs H Q ⟨rfl, ι, h, d1, σ, r, q1, f⟩
  cases d1 <;> try exact f.elim
  rename_i i
  have f : FinV G W ι H σ (match lstAt h (.ref i) with
    | some xs => (match xs[xs.length - 1]? with
      | some x => .ok x (h.set i (.lst xs.dropLast))
      | none => .er)
    | _ => .er) Q := f
  split at f
  · rename_i xs ex
    obtain ⟨i, l, vs, e, rfl, h2, h3, h4, h5⟩ := lstAt_inv r q1 ex
    cases e
    split at f
    · rename_i y ey
      obtain ⟨v, h6, h7⟩ := h5.get ey
      exact ⟨l, vs, v, rfl, rfl, h4, by rw [h5.length]; exact h6, fin_write f r h3 h5.dropLast h7⟩
    · exact f.elim
  · exact f.elim
theorem m_popAt : MtR X "list.pop" (rM1 G W fun h a b => bmD h .popAt a [b]) := by
  refine MtR.im (r := rPopAt) mt_popAt ?_
  rintro x xs H Q ⟨y, rfl, ι, h, d1, d2, σ, r, q1, q2, f⟩
  cases d1 <;> try exact f.elim
  cases d2 <;> try exact f.elim
  rename_i i j
  have f : FinV G W ι H σ (match lstAt h (.ref i) with
    | some xs => if small62 j then (match natIx xs.length j with
      | some n => (match xs[n]? with
        | some x => .ok x (h.set i (.lst (xs.eraseIdx n)))
        | none => .er)
      | none => .er) else .er
    | _ => .er) Q := f
  split at f
  · rename_i xs ex
    obtain ⟨i, l, vs, e, rfl, h2, h3, h4, h5⟩ := lstAt_inv r q1 ex
    cases e
    rw [q2.intD]
    split at f
    · rename_i hsm
      split at f
      · rename_i n hn
        split at f
        · rename_i y ey
          obtain ⟨v, h6, h7⟩ := h5.get ey
          unfold small62 at hsm
          rw [Bool.and_eq_true, decide_eq_true_eq, decide_eq_true_eq] at hsm
          refine ⟨l, vs, j, n, v, rfl, rfl, h4, by omega, by omega, ?_, h6, fin_write f r h3 (h5.eraseIdx n) h7⟩
          rw [h5.length]; exact natIx_seq hn
        · exact f.elim
      · exact f.elim
    · exact f.elim
  · exact f.elim
end Rx

/-! RxG: targets, iterators, loops, comprehensions. -/
namespace Rx
open PySem L2
variable {G : Gx} {W : WX} {cl : Cl} {k : Nat} {N : List Str} {sc : Scope} {st : List Str} {X : Cx}
variable {ι ι' : List Addr} {H H' : Hp} {h h' : Hq} {ρ : Ev} {σ σ' : MSt} {v : V} {d : D}

/-! ### which slots a store leaves alone -/
def Off (vs : List Nat) (σ σ' : MSt) : Prop := σ'.length = σ.length ∧ ∀ i, i ∉ vs → σ'[i]? = σ[i]?
theorem Off.refl {vs : List Nat} : Off vs σ σ := ⟨rfl, fun _ _ => rfl⟩
theorem Off.set {i : Nat} {x : Option V} : Off [i] σ (σ.set i x) := ⟨by simp, fun j hj => by
  rw [List.getElem?_set_ne]
  intro e; exact hj (by simp [e])⟩
theorem Off.trans {vs ws : List Nat} {σ'' : MSt} (a : Off vs σ σ') (b : Off ws σ' σ'') : Off (vs ++ ws) σ σ'' := ⟨b.1.trans a.1, fun i hi => by
  rw [List.mem_append, not_or] at hi
  rw [b.2 i hi.2, a.2 i hi.1]⟩
theorem wipe_get {i : Nat} : ∀ {vs : List Nat}, (wipe σ vs)[i]? = if i ∈ vs then (σ[i]?).map fun _ => none else σ[i]?
  | [] => by simp [wipe]
  | v :: vs => by
    unfold wipe
    by_cases hv : v = i
    · subst hv
      rw [if_pos (by simp)]
      by_cases hl : v < σ.length
      · rw [List.getElem?_set_self (by rw [wipe_length]; exact hl)]
        simp [hl]
      · rw [List.getElem?_eq_none (by simp [wipe_length]; omega), List.getElem?_eq_none (by omega)]; rfl
    · rw [List.getElem?_set_ne hv, wipe_get (vs := vs)]
      by_cases hm : i ∈ vs
      · rw [if_pos hm, if_pos (by simp [hm])]
      · rw [if_neg hm, if_neg (by simp [hm]; exact fun e => hv e.symm)]
theorem Off.wipe {vs : List Nat} (o : Off vs σ σ') : wipe σ' vs = wipe σ vs := by
  apply List.ext_getElem?
  intro i
  rw [wipe_get, wipe_get]
  by_cases hi : i ∈ vs
  · rw [if_pos hi, if_pos hi]
    by_cases hl : i < σ.length
    · have h2 : i < σ'.length := by rw [o.1]; exact hl
      simp [hl, h2]
    · have h2 : ¬ i < σ'.length := by rw [o.1]; exact hl
      rw [List.getElem?_eq_none (by omega), List.getElem?_eq_none (by omega)]
  · rw [if_neg hi, if_neg hi, o.2 i hi]
theorem wipe_twice {vs : List Nat} : wipe (wipe σ vs) vs = wipe σ vs := by
  apply List.ext_getElem?
  intro i
  rw [wipe_get, wipe_get]
  by_cases hi : i ∈ vs
  · rw [if_pos hi, if_pos hi]; cases σ[i]? <;> rfl
  · rw [if_neg hi, if_neg hi]
theorem wipeE_len (ρ : Ev) : ∀ vs : List Nat, (wipeE ρ vs).length = ρ.length
  | [] => rfl
  | v :: vs => by unfold wipeE; rw [List.length_set, wipeE_len ρ vs]
theorem wipeE_some {i : Nat} {d : D} : ∀ {vs : List Nat}, (wipeE ρ vs)[i]? = some (some d) → ρ[i]? = some (some d) ∧ i ∉ vs
  | [], h => ⟨h, by simp⟩
  | v :: vs, h => by
    unfold wipeE at h
    by_cases hi : v = i
    · subst hi
      by_cases hv : v < (wipeE ρ vs).length
      · rw [List.getElem?_set_self hv] at h; cases h
      · rw [List.getElem?_eq_none (by simpa using hv)] at h; cases h
    · rw [List.getElem?_set_ne hi] at h
      have := wipeE_some h
      exact ⟨this.1, by simp [this.2]; exact fun e => hi e.symm⟩
theorem ER.wiped {vs : List Nat} (r : ER G ι H ρ σ) : ER G ι H (wipeE ρ vs) (wipe σ vs) := ⟨by rw [wipeE_len, wipe_length, r.len], fun i d e => by
  obtain ⟨e1, e2⟩ := wipeE_some e
  obtain ⟨v, h1, h2⟩ := r.at_ i d e1
  exact ⟨v, by rw [wipe_get, if_neg e2]; exact h1, h2⟩⟩
theorem ER.set {i : Nat} (r : ER G ι H ρ σ) (q : VR G ι H v d) : ER G ι H (ρ.set i (some d)) (σ.set i (some v)) := ⟨by simp [r.len], fun j e he => by
  by_cases hij : i = j
  · subst hij
    have hl : i < ρ.length := by
      have := (List.getElem?_eq_some_iff.mp he).1
      simpa using this
    rw [List.getElem?_set_self hl] at he
    cases he
    exact ⟨v, by rw [List.getElem?_set_self (by rw [← r.len]; exact hl)], q⟩
  · rw [List.getElem?_set_ne hij] at he
    obtain ⟨u, h1, h2⟩ := r.at_ j e he
    exact ⟨u, by rw [List.getElem?_set_ne hij]; exact h1, h2⟩⟩

/-! ### targets -/
def FinG (G : Gx) (ι : List Addr) (H : Hp) (σ : MSt) (vs : List Nat) (r : R Ev) (Q : MSt → Hp → Prop) : Prop := match r with
  | .ok ρ' h' => ∀ ι' H' σ', Ext ι H ι' H' → HR G ι' h' H' → ER G ι' H' ρ' σ' → Off vs σ σ' → Q σ' H'
  | _ => False
def tG (G : Gx) (cl : Cl) (t : T) : TG := fun v σ H Q => ∃ ι ρ h d, ER G ι H ρ σ ∧ HR G ι h H ∧ VR G ι H v d ∧ FinG G ι H σ t.slots (evT cl t d ρ h) Q
def tGs (G : Gx) (cl : Cl) (ts : Ts) : TGs := fun vs σ H Q => ∃ ι ρ h ds, ER G ι H ρ σ ∧ HR G ι h H ∧ VRs G ι H vs ds ∧ FinG G ι H σ ts.slots (evTs cl ts ds ρ h) Q
theorem PG.of {e : Expr} {t t' : TG} (p : PG X e t) (i : ∀ v σ H Q, t' v σ H Q → t v σ H Q) : PG X e t' :=
  ⟨fun pins s σ H v u Q I r q => p.run pins s σ H v u Q I r (i v σ H Q q)⟩
theorem PGs.of {e : List Expr} {t t' : TGs} (p : PGs X e t) (i : ∀ v σ H Q, t' v σ H Q → t v σ H Q) : PGs X e t' :=
  ⟨fun pins s σ H v u Q I r q => p.run pins s σ H v u Q I r (i v σ H Q q)⟩
theorem g_nm {i : Nat} {x : Str} {pos : Pos} (g : Gd G W k N sc st X) (hi : N[i]? = some x) (hx : Loc sc x) (hf : x ∈ st) : PG X (.Name x pos) (tG G cl (.nm i)) := by
  refine PG.of (pg_name (i := i) (by rw [g.hN]; exact g.nd) (by rw [g.hN]; exact hi) (by rw [g.hsc]; exact hx) (g.sto x hf)) ?_
  rintro v σ H Q ⟨ι, ρ, h, d, er, hr, q, f⟩
  exact f ι H _ .refl hr (er.set q) Off.set
theorem g_nil : PGs X [] (tGs G cl .nil) := by
  refine PGs.of pgs_nil ?_
  rintro vs σ H Q ⟨ι, ρ, h, ds, er, hr, q, f⟩
  cases q with
  | nil => exact ⟨rfl, f ι H σ .refl hr er .refl⟩
  | cons => exact f.elim
def plainG : Expr → Bool
  | .Starred _ _ => false
  | _ => true
theorem asg_cons {env : Env} {e : Expr} {es : List Expr} (h : plainG e = true) : assignEach (e :: es) env = (false, assign e env) :: assignEach es env := by
  cases e <;> first | rfl | (cases h)
theorem asg_len {env : Env} : ∀ {es : List Expr}, es.all plainG = true → (assignEach es env).length = es.length ∧ (assignEach es env).findIdx? (·.1) = none
  | [], _ => ⟨rfl, rfl⟩
  | e :: es, h => by
    rw [List.all_cons, Bool.and_eq_true] at h
    obtain ⟨h1, h2⟩ := asg_len (env := env) h.2
    rw [asg_cons h.1]
    refine ⟨by simp [h1], ?_⟩
    rw [List.findIdx?_cons]
    simp [h2]
theorem g_cons {e : Expr} {es : List Expr} {t : T} {ts : Ts} (h1 : PG X e (tG G cl t)) (h2 : PGs X es (tGs G cl ts)) (hp : plainG e = true) : PGs X (e :: es) (tGs G cl (.cons t ts)) := by
  refine PGs.of (pgs_cons h1 h2 (by rw [asg_cons hp]; rfl)) ?_
  rintro vs σ H Q ⟨ι, ρ, h, ds, er, hr, q, f⟩
  cases q with
  | nil => exact f.elim
  | cons q qs =>
    rename_i v d vs ds
    refine ⟨v, vs, rfl, ι, ρ, h, d, er, hr, q, ?_⟩
    have f : FinG G ι H σ (t.slots ++ ts.slots) ((evT cl t d ρ h).bind fun ρ' h1 => evTs cl ts ds ρ' h1) Q := f
    cases e1 : evT cl t d ρ h with
    | ok ρ1 h1 =>
      rw [e1] at f
      intro ι1 H1 σ1 x1 r1 er1 o1
      refine ⟨ι1, ρ1, h1, ds, er1, r1, qs.ext x1, ?_⟩
      have f : FinG G ι H σ (t.slots ++ ts.slots) (evTs cl ts ds ρ1 h1) Q := f
      cases e2 : evTs cl ts ds ρ1 h1 with
      | ok ρ2 h2 =>
        rw [e2] at f
        intro ι2 H2 σ2 x2 r2 er2 o2
        exact f ι2 H2 σ2 (x1.trans x2) r2 er2 (o1.trans o2)
      | xc => rw [e2] at f; exact f
      | er => rw [e2] at f; exact f
    | xc => rw [e1] at f; exact f
    | er => rw [e1] at f; exact f
def Ts.len : Ts → Nat
  | .nil => 0
  | .cons _ ts => ts.len + 1
theorem evTs_len : ∀ {ts : Ts} {ds : List D} {ρ ρ' : Ev} {h h' : Hq}, evTs cl ts ds ρ h = .ok ρ' h' → ds.length = ts.len
  | .nil, [], _, _, _, _, _ => rfl
  | .nil, _ :: _, _, _, _, _, e => by unfold evTs at e; cases e
  | .cons _ _, [], _, _, _, _, e => by unfold evTs at e; cases e
  | .cons t ts, d :: ds, ρ, ρ', h, h', e => by
    unfold evTs at e
    cases e1 : evT cl t d ρ h with
    | ok ρ1 h1 =>
      rw [e1] at e
      have := evTs_len (ts := ts) (ds := ds) e
      simp [Ts.len, this]
    | xc => rw [e1] at e; cases e
    | er => rw [e1] at e; cases e
theorem g_tp {es : List Expr} {ts : Ts} {j : Nat} {pos : Pos} (g : Gd G W k N sc st X) (h : PGs X es (tGs G cl ts)) (hp : es.all plainG = true) (hl : es.length = ts.len) : PG X (.Tuple es j pos) (tG G cl (.tp ts)) := by
  refine PG.of (pg_tup (n := es.length) g.calm h (asg_len hp).1 (asg_len hp).2) ?_
  rintro v σ H Q ⟨ι, ρ, h, d, er, hr, q, f⟩
  cases d <;> try exact f.elim
  rename_i xs
  have f : FinG G ι H σ ts.slots (evTs cl ts xs ρ h) Q := f
  cases q with
  | tup tq qs =>
    rename_i a vs
    refine ⟨a, vs, rfl, by rw [g.hK]; exact tq.sq, ?_, ι, ρ, h, xs, er, hr, qs, f⟩
    rw [qs.length, hl]
    cases e2 : evTs cl ts xs ρ h with
    | ok ρ2 h2 => exact evTs_len e2
    | xc => rw [e2] at f; exact f.elim
    | er => rw [e2] at f; exact f.elim
theorem FinV.nox {r : R D} {Q : VK} (f : FinV G W ι H σ r.nox Q) : FinV G W ι H σ r Q := by
  cases r with
  | ok => exact f
  | xc => exact f.elim
  | er => exact f
theorem FinG.of {r : R D} {K : D → Hq → R Ev} {vs : List Nat} {Q : MSt → Hp → Prop} (f : FinG G ι H σ vs (r.nox.bind K) Q) :
    FinV G W ι H σ r fun v1 H1 => ∃ ι1 d1 h1, Ext ι H ι1 H1 ∧ HR G ι1 h1 H1 ∧ VR G ι1 H1 v1 d1 ∧ FinG G ι1 H1 σ vs (K d1 h1) Q := by
  cases r with
  | ok d1 h1 =>
    intro ι1 H1 v1 e1 r1 q1
    refine ⟨ι1, d1, h1, e1, r1, q1, ?_⟩
    have f : FinG G ι H σ vs (K d1 h1) Q := f
    cases q : K d1 h1 with
    | ok d2 h2 => rw [q] at f; exact fun ι2 H2 v2 e2 r2 q2 => f ι2 H2 v2 (e1.trans e2) r2 q2
    | xc x h2 => rw [q] at f; exact f
    | er => rw [q] at f; exact f
  | xc x h1 => exact f.elim
  | er => exact f.elim
/-- a store into a list or a dict -/
def rSetA (G : Gx) : TSet := fun o i v H Q => rSetL o i v H Q ∨ ∃ a o', o = .ref a ∧ PutG G H a i v o' ∧ Q (upd H a o')
theorem set_any (g : Gd G W k N sc st X) : PSet X (rSetA G) := by
  intro pins s σ H o i v ov iv u Q I ro ri rv h
  rcases h with h | ⟨a, o', rfl, p, q⟩
  · exact set_list pins s σ H o i v ov iv u Q I ro ri rv h
  · obtain rfl : ov = .ref a := ro
    exact (p X pins σ s iv u g.hK g.hP g.hw g.rm.u64 I ri rv X.xe _ fun s' I' => ⟨_, I', q⟩).2
theorem g_sub {o i : Expr} {io ii : E} {pos : Pos} (g : Gd G W k N sc st X) (ho : PE X o (tE G W cl io)) (hi : PE X i (tE G W cl ii)) (hs : notSlice i = true) : PG X (.Subscript o i pos) (tG G cl (.sub io ii)) := by
  refine PG.of (pg_sub ho hi (set_any g) (by cases i <;> first | (intro _; rfl) | cases hs)) ?_
  rintro v σ H Q ⟨ι, ρ, q, d, er, rq, qd, f⟩
  refine ⟨ι, ρ, q, er, rq, (FinG.of f).imp ?_⟩
  rintro v1 H1 ⟨ι1, d1, h1, e1, r1, q1, f1⟩
  refine ⟨ι1, ρ, h1, er.ext e1, r1, (FinG.of f1).imp ?_⟩
  rintro v2 H2 ⟨ι2, d2, h2, e2, r2, q2, f2⟩
  have f2 : FinG G ι2 H2 σ [] (match setOb h2 d1 d2 d with
    | some h3 => .ok ρ h3
    | none => .er) Q := f2
  split at f2
  · rename_i h3 e3
    have qd2 := qd.ext (e1.trans e2)
    unfold setOb at e3
    split at e3
    · rename_i xs ex
      obtain ⟨p, l, ws, rfl, rfl, hp, hi, hl, hw⟩ := lstAt_inv r2 (q1.ext e2) ex
      cases d2 <;> try (cases e3; done)
      rename_i j
      have e3 : ((natIx xs.length j).map fun n => h2.set p (.lst (xs.set n d))) = some h3 := e3
      cases en : natIx xs.length j with
      | none => rw [en] at e3; cases e3
      | some n =>
        rw [en] at e3
        cases e3
        rw [q2.intD]
        have ex : Ext ι2 H2 ι2 (upd H2 l (.lst (ws.set n v))) := Ext.write (List.mem_of_getElem? hi)
        exact .inl ⟨l, ws, j, n, rfl, rfl, hl, by rw [hw.length]; exact natIx_ix en, f2 ι2 _ σ ex (r2.write hi (.lst upd_same ((VRs.set qd2 n hw).ext ex))) (((er.ext e1).ext e2).ext ex) .refl⟩
    · split at e3
      · rename_i kv ek
        obtain ⟨p, l, o, kvs, vvs, rfl, rfl, hp, hi, hl, z, w1, w2⟩ := dctAt_inv r2 (q1.ext e2) ek
        have e3 : (if keyFit kv.1 d2 && decide (kv.1.length < sizeLine) then some (h2.set p (.dct (dput kv.1 kv.2 d2 d).1 (dput kv.1 kv.2 d2 d).2)) else none) = some h3 := e3
        split at e3
        · rename_i kf
          cases e3
          rw [Bool.and_eq_true, decide_eq_true_eq] at kf
          obtain ⟨o', kvs', vvs', pg, z', w1', w2'⟩ := put_ok hl z w1 w2 q2 qd2 kf.1 kf.2
          have ex : Ext ι2 H2 ι2 (upd H2 l o') := Ext.write (List.mem_of_getElem? hi)
          exact .inr ⟨l, o', rfl, pg, f2 ι2 _ σ ex (r2.write hi (.dct upd_same z' (w1'.ext ex) (w2'.ext ex))) (((er.ext e1).ext e2).ext ex) .refl⟩
        · cases e3
      · cases e3
  · exact f2.elim

/-! ### reserved addresses -/
abbrev Gx.ad (G : Gx) (rs : List Addr) : Gx := { G with rs := rs ++ G.rs }
variable {rs : List Addr}
theorem nad {a : Addr} {u : HO} (n : a ∉ G.rs) (e : H a = some u) (f : ∀ b ∈ rs, H b = none) : a ∉ (G.ad rs).rs := fun q => by
  rcases List.mem_append.mp q with q | q
  · rw [f a q] at e; cases e
  · exact n q
theorem und {a : Addr} (n : a ∉ (G.ad rs).rs) : a ∉ G.rs := fun q => n (List.mem_append_right _ q)
mutual
theorem VR.ad (f : ∀ b ∈ rs, H b = none) : ∀ {v : V} {d : D}, VR G ι H v d → VR (G.ad rs) ι H v d
  | _, _, .non => .non
  | _, _, .bl b => .bl b
  | _, _, .int i => .int i
  | _, _, .str x => .str x
  | _, _, .tup q r => .tup q (VRs.ad f r)
  | _, _, .lst n q r => .lst ⟨n.1, nad n.2 q f⟩ q (VRs.ad f r)
  | _, _, .slst q r => .slst q (VRs.ad f r)
  | _, _, .dct n q z r1 r2 => .dct ⟨n.1, nad n.2 q f⟩ q z (VRs.ad f r1) (VRs.ad f r2)
  | _, _, .ref q => .ref q
theorem VRs.ad (f : ∀ b ∈ rs, H b = none) : ∀ {vs : List V} {ds : List D}, VRs G ι H vs ds → VRs (G.ad rs) ι H vs ds
  | _, _, .nil => .nil
  | _, _, .cons r t => .cons (VR.ad f r) (VRs.ad f t)
end
mutual
theorem VR.un : ∀ {v : V} {d : D}, VR (G.ad rs) ι H v d → VR G ι H v d
  | _, _, .non => .non
  | _, _, .bl b => .bl b
  | _, _, .int i => .int i
  | _, _, .str x => .str x
  | _, _, .tup q r => .tup q (VRs.un r)
  | _, _, .lst n q r => .lst ⟨n.1, und n.2⟩ q (VRs.un r)
  | _, _, .slst q r => .slst q (VRs.un r)
  | _, _, .dct n q z r1 r2 => .dct ⟨n.1, und n.2⟩ q z (VRs.un r1) (VRs.un r2)
  | _, _, .ref q => .ref q
theorem VRs.un : ∀ {vs : List V} {ds : List D}, VRs (G.ad rs) ι H vs ds → VRs G ι H vs ds
  | _, _, .nil => .nil
  | _, _, .cons r t => .cons (VR.un r) (VRs.un t)
end
theorem OR.ad {a : Addr} {o : Ob} (f : ∀ b ∈ rs, H b = none) (r : OR G ι H a o) : OR (G.ad rs) ι H a o := by
  cases r with
  | lst q r => exact .lst q (r.ad f)
  | dct q z r1 r2 => exact .dct q z (r1.ad f) (r2.ad f)
  | ins m q n r => exact .ins m q n (r.ad f)
theorem OR.un {a : Addr} {o : Ob} (r : OR (G.ad rs) ι H a o) : OR G ι H a o := by
  cases r with
  | lst q r => exact .lst q r.un
  | dct q z r1 r2 => exact .dct q z r1.un r2.un
  | ins m q n r => exact .ins m q n r.un
theorem HR.un (r : HR (G.ad rs) ι h H) : HR G ι h H := ⟨r.len, r.nd, fun i o a h1 h2 => (r.at_ i o a h1 h2).un, fun a m => r.rsv a (List.mem_append_right _ m)⟩
theorem ER.ad (f : ∀ b ∈ rs, H b = none) (r : ER G ι H ρ σ) : ER (G.ad rs) ι H ρ σ := ⟨r.len, fun i d e => by
  obtain ⟨v, h1, h2⟩ := r.at_ i d e
  exact ⟨v, h1, h2.ad f⟩⟩
theorem ER.un (r : ER (G.ad rs) ι H ρ σ) : ER G ι H ρ σ := ⟨r.len, fun i d e => by
  obtain ⟨v, h1, h2⟩ := r.at_ i d e
  exact ⟨v, h1, h2.un⟩⟩
/-- a new thing is reserved -/
theorem HR.hold {p : Addr} {u : HO} (r : HR G ι h H) (np : H p = none) : HR (G.ad [p]) ι h (upd H p u) := by
  have f : ∀ b ∈ [p], H b = none := fun b m => by rw [List.mem_singleton] at m; rw [m]; exact np
  have e : Ext ι H ι (upd H p u) := Ext.laid r np
  refine ⟨r.len, r.nd, fun i o a h1 h2 => ((r.at_ i o a h1 h2).ad f).ext e ?_, fun a m => ?_⟩
  · have : a ≠ p := fun e => r.out np (by rw [← e]; exact List.mem_of_getElem? h2)
    rw [upd_ne this]
  · rcases List.mem_append.mp m with m | m
    · rw [List.mem_singleton] at m
      rw [m]; exact ⟨r.out np, u, upd_same⟩
    · exact ⟨(r.rsv a m).1, upd_has (r.rsv a m).2⟩
theorem Gd.ad (g : Gd G W k N sc st X) : Gd (G.ad rs) W k N sc st X := ⟨g.hN, g.hsc, g.nd, g.hP, g.hw, g.hK, g.hm, g.hb, g.calm, g.rm, g.tk, g.own, g.sto⟩

/-! ### what an iterator gives -/
/-- from (ι, H) on: so long as the source stays, T is true of values that are xs -/
def Stay (G : Gx) (T : Hp → List V → Prop) (ι : List Addr) (H : Hp) (s : Src) (xs : List D) : Prop :=
  ∀ rs ι' H' h', (∀ b ∈ rs, H b = none) → Ext ι H ι' H' → HR (G.ad rs) ι' h' H' → unch s h' = true → ∃ vs, T H' vs ∧ VRs (G.ad rs) ι' H' vs xs
structure Serves (G : Gx) (J : L2.It) (ι : List Addr) (H : Hp) (s : Src) (xs : List D) : Prop where
  stop : ∀ rs ι' H' h', (∀ b ∈ rs, H b = none) → Ext ι H ι' H' → HR (G.ad rs) ι' h' H' → unch s h' = true → J.stop xs.length H'
  go : ∀ i d rs ι' H' h', (∀ b ∈ rs, H b = none) → Ext ι H ι' H' → HR (G.ad rs) ι' h' H' → unch s h' = true → xs[i]? = some d → J.go i H'
  item : ∀ i d rs ι' H' h' x H2, (∀ b ∈ rs, H b = none) → Ext ι H ι' H' → HR (G.ad rs) ι' h' H' → unch s h' = true → xs[i]? = some d → J.yld i H' x H2 →
    Ext ι' H' ι' H2 ∧ HR (G.ad rs) ι' h' H2 ∧ VR (G.ad rs) ι' H2 x d ∧ ∀ b ∈ rs, H2 b = H' b
def FinI (G : Gx) (W : WX) (ι : List Addr) (H : Hp) (σ : MSt) (r : R (Src × List D)) (Q : L2.It → Hp → Prop) : Prop := match r with
  | .ok sx h' => ∀ ι' H' J, Ext ι H ι' H' → HR G ι' h' H' → Serves G J ι' H' sx.1 sx.2 → Q J H'
  | .xc x h' => ∀ ι' H' cls dd, Ext ι H ι' H' → HR G ι' h' H' → XR G ι' H' x cls dd → W cls dd σ H'
  | .er => False
def tI (G : Gx) (W : WX) (cl : Cl) (it : It) : TI := fun σ H Q => ∃ ι ρ h, ER G ι H ρ σ ∧ HR G ι h H ∧ FinI G W ι H σ (evIt cl it ρ h) Q
theorem PI.of {tg e : Expr} {t t' : TI} (p : PI X tg e t) (i : ∀ σ H Q, t' σ H Q → t σ H Q) : PI X tg e t' :=
  ⟨fun pins s σ H Q I q => p.run pins s σ H Q I (i σ H Q q)⟩
theorem FinV.bindI {r : R D} {K : D → Hq → R (Src × List D)} {Q : L2.It → Hp → Prop} (f : FinI G W ι H σ (r.bind K) Q) :
    FinV G W ι H σ r fun v1 H1 => ∃ ι1 d1 h1, Ext ι H ι1 H1 ∧ HR G ι1 h1 H1 ∧ VR G ι1 H1 v1 d1 ∧ r = .ok d1 h1 ∧ FinI G W ι1 H1 σ (K d1 h1) Q := by
  cases r with
  | ok d1 h1 =>
    intro ι1 H1 v1 e1 r1 q1
    refine ⟨ι1, d1, h1, e1, r1, q1, rfl, ?_⟩
    rw [R.bind_ok] at f
    cases q : K d1 h1 with
    | ok d2 h2 => rw [q] at f; exact fun ι2 H2 v2 e2 r2 q2 => f ι2 H2 v2 (e1.trans e2) r2 q2
    | xc x h2 => rw [q] at f; exact fun ι2 H2 c dd e2 r2 q2 => f ι2 H2 c dd (e1.trans e2) r2 q2
    | er => rw [q] at f; exact f
  | xc x h1 => exact f
  | er => exact f
theorem FinL.bindI {r : R (List D)} {K : List D → Hq → R (Src × List D)} {Q : L2.It → Hp → Prop} (f : FinI G W ι H σ (r.bind K) Q) :
    FinL G W ι H σ r fun v1 H1 => ∃ ι1 d1 h1, Ext ι H ι1 H1 ∧ HR G ι1 h1 H1 ∧ VRs G ι1 H1 v1 d1 ∧ r = .ok d1 h1 ∧ FinI G W ι1 H1 σ (K d1 h1) Q := by
  cases r with
  | ok d1 h1 =>
    intro ι1 H1 v1 e1 r1 q1
    refine ⟨ι1, d1, h1, e1, r1, q1, rfl, ?_⟩
    rw [R.bind_ok] at f
    cases q : K d1 h1 with
    | ok d2 h2 => rw [q] at f; exact fun ι2 H2 v2 e2 r2 q2 => f ι2 H2 v2 (e1.trans e2) r2 q2
    | xc x h2 => rw [q] at f; exact fun ι2 H2 c dd e2 r2 q2 => f ι2 H2 c dd (e1.trans e2) r2 q2
    | er => rw [q] at f; exact f
  | xc x h1 => exact f
  | er => exact f
theorem seq_stay {xs : List D} (r : HR G ι h H) (q : VR G ι H v d) (e : seqOf h d = some xs) :
    ∃ a, v = .ref a ∧ (Stay G (fun H' vs => SqL G.K H' a vs) ι H (srcOf h d) xs ∨ Stay G (fun H' vs => SqT G.K H' a vs) ι H (srcOf h d) xs) := by
  unfold seqOf at e
  cases q with
  | tup tq qs =>
    cases e
    exact ⟨_, rfl, .inr fun rs ι' H' h' z x _ _ => ⟨_, (tq.ext x).sq, (qs.ad z).ext x⟩⟩
  | lst n q qs =>
    cases e
    exact ⟨_, rfl, .inl fun rs ι' H' h' z x _ _ => ⟨_, .inl (.inl (x.keep _ _ q n.1)), (qs.ad z).ext x⟩⟩
  | slst q qs =>
    cases e
    exact ⟨_, rfl, .inl fun rs ι' H' h' z x _ _ => ⟨_, (q.ext x).sq, (qs.ad z).ext x⟩⟩
  | ref hi =>
    rename_i a i
    obtain ⟨o, e1, -⟩ := r.place hi
    have e2 : view h (.ref i) = match h[i]? with
      | some (.lst xs) => .lst xs
      | some (.dct ks vs) => .dct ks vs
      | _ => .ref i := rfl
    rw [e2, e1] at e
    cases o with
    | lst ys =>
      cases e
      refine ⟨a, rfl, .inl fun rs ι' H' h' z x hr' u => ?_⟩
      have es : srcOf h (.ref i) = some (i, .lst xs) := by
        unfold srcOf
        dsimp only
        rw [e1]
      rw [es] at u
      unfold unch at u
      dsimp only at u
      split at u
      · rename_i q eq
        rw [Ob.same_eq _ _ u] at eq
        cases hr'.at_ i _ a eq (x.ix hi) with
        | lst q1 q2 => exact ⟨_, .inl (.inl q1), q2⟩
      · cases u
    | dct => cases e
    | ins => cases e
  | _ => cases e
theorem unch_src (r : HR G ι h H) (q : VR G ι H v d) : unch (srcOf h d) h = true := by
  cases d <;> try rfl
  rename_i i
  unfold srcOf unch
  dsimp only
  cases e : h[i]? with
  | none => rfl
  | some o =>
    cases o with
    | lst xs => dsimp only; rw [e]; exact sames_self xs
    | dct ks vs => dsimp only; rw [e]; show (sames ks ks && sames vs vs) = true; rw [sames_self, sames_self]; rfl
    | ins => rfl
def Es.len : Es → Nat
  | .nil => 0
  | .cons _ es => es.len + 1
theorem evEs_len : ∀ {es : Es} {ds : List D} {ρ : Ev} {h h' : Hq}, evEs cl es ρ h = .ok ds h' → ds.length = es.len
  | .nil, ds, _, _, _, e => by
    unfold evEs at e
    cases e; rfl
  | .cons x xs, ds, ρ, h, h', e => by
    unfold evEs at e
    cases e1 : evE cl x ρ h with
    | ok d1 h1 =>
      rw [e1, R.bind_ok] at e
      cases e2 : evEs cl xs ρ h1 with
      | ok ds2 h2 =>
        rw [e2, R.bind_ok] at e
        cases e
        simp [Es.len, evEs_len e2]
      | xc => rw [e2] at e; cases e
      | er => rw [e2] at e; cases e
    | xc => rw [e1] at e; cases e
    | er => rw [e1] at e; cases e
theorem serves_list {a : Addr} {s : Src} {xs : List D} (t : Stay G (fun H' vs => SqL G.K H' a vs) ι H s xs) : Serves G (Itl G.K a) ι H s xs where
  stop := fun rs ι' H' h' z x r u => by
    obtain ⟨vs, h1, h2⟩ := t rs ι' H' h' z x r u
    exact ⟨vs, h1, by rw [h2.length]; exact Nat.le_refl _⟩
  go := fun i d rs ι' H' h' z x r u e => by
    obtain ⟨vs, h1, h2⟩ := t rs ι' H' h' z x r u
    obtain ⟨v, h3, -⟩ := h2.get e
    exact ⟨vs, v, h1, h3⟩
  item := fun i d rs ι' H' h' v H2 z x r u e y => by
    obtain ⟨vs, h1, h2⟩ := t rs ι' H' h' z x r u
    obtain ⟨rfl, y2⟩ := y
    obtain ⟨w, h3, h4⟩ := h2.get e
    have := y2 vs h1
    rw [h3] at this; cases this
    exact ⟨.refl, r, h4, fun _ _ => rfl⟩
theorem serves_tup {a : Addr} {s : Src} {xs : List D} (t : Stay G (fun H' vs => SqT G.K H' a vs) ι H s xs) : Serves G (Itt G.K a) ι H s xs where
  stop := fun rs ι' H' h' z x r u => by
    obtain ⟨vs, h1, h2⟩ := t rs ι' H' h' z x r u
    exact ⟨vs, h1, by rw [h2.length]; exact Nat.le_refl _⟩
  go := fun i d rs ι' H' h' z x r u e => by
    obtain ⟨vs, h1, h2⟩ := t rs ι' H' h' z x r u
    obtain ⟨v, h3, -⟩ := h2.get e
    exact ⟨vs, v, h1, h3⟩
  item := fun i d rs ι' H' h' v H2 z x r u e y => by
    obtain ⟨vs, h1, h2⟩ := t rs ι' H' h' z x r u
    obtain ⟨rfl, y2⟩ := y
    obtain ⟨w, h3, h4⟩ := h2.get e
    have := y2 vs h1
    rw [h3] at this; cases this
    exact ⟨.refl, r, h4, fun _ _ => rfl⟩
theorem rev_at {α : Type} {xs : List α} {i : Nat} {d : α} (e : xs.reverse[i]? = some d) : i < xs.length ∧ xs[xs.length - 1 - i]? = some d := by
  have h := (List.getElem?_eq_some_iff.mp e).1
  rw [List.length_reverse] at h
  refine ⟨h, ?_⟩
  rw [List.getElem?_reverse h] at e
  exact e
theorem serves_revL {a : Addr} {s : Src} {xs : List D} {n : Nat} (hn : n = xs.length) (t : Stay G (fun H' vs => SqL G.K H' a vs) ι H s xs) : Serves G (Itv G.K a n) ι H s xs.reverse where
  stop := fun rs ι' H' h' z x r u => by
    show n ≤ xs.reverse.length
    rw [List.length_reverse, hn]; exact Nat.le_refl _
  go := fun i d rs ι' H' h' z x r u e => by
    obtain ⟨vs, h1, h2⟩ := t rs ι' H' h' z x r u
    obtain ⟨h0, e⟩ := rev_at e
    obtain ⟨v, h3, -⟩ := h2.get e
    subst hn
    exact ⟨h0, vs, v, h1, h3⟩
  item := fun i d rs ι' H' h' v H2 z x r u e y => by
    obtain ⟨vs, h1, h2⟩ := t rs ι' H' h' z x r u
    obtain ⟨rfl, y2⟩ := y
    obtain ⟨h0, e⟩ := rev_at e
    obtain ⟨w, h3, h4⟩ := h2.get e
    subst hn
    have := y2 vs h1
    rw [h3] at this; cases this
    exact ⟨.refl, r, h4, fun _ _ => rfl⟩
theorem serves_revT {a : Addr} {s : Src} {xs : List D} {n : Nat} (hn : n = xs.length) (t : Stay G (fun H' vs => SqT G.K H' a vs) ι H s xs) : Serves G (RT.ItvT G.K a n) ι H s xs.reverse where
  stop := fun rs ι' H' h' z x r u => by
    show n ≤ xs.reverse.length
    rw [List.length_reverse, hn]; exact Nat.le_refl _
  go := fun i d rs ι' H' h' z x r u e => by
    obtain ⟨vs, h1, h2⟩ := t rs ι' H' h' z x r u
    obtain ⟨h0, e⟩ := rev_at e
    obtain ⟨v, h3, -⟩ := h2.get e
    subst hn
    exact ⟨h0, vs, v, h1, h3⟩
  item := fun i d rs ι' H' h' v H2 z x r u e y => by
    obtain ⟨vs, h1, h2⟩ := t rs ι' H' h' z x r u
    obtain ⟨rfl, y2⟩ := y
    obtain ⟨h0, e⟩ := rev_at e
    obtain ⟨w, h3, h4⟩ := h2.get e
    subst hn
    have := y2 vs h1
    rw [h3] at this; cases this
    exact ⟨.refl, r, h4, fun _ _ => rfl⟩
theorem rng_at {lo hi : Int} {i : Nat} {d : D} (e : (rngI lo hi)[i]? = some d) : i < (hi - lo).toNat ∧ d = .int (lo + i) := by
  unfold rngI at e
  rw [List.getElem?_map] at e
  cases q : (List.range (hi - lo).toNat)[i]? with
  | none => rw [q] at e; cases e
  | some j =>
    rw [q] at e
    cases e
    obtain ⟨h1, h2⟩ := List.getElem?_eq_some_iff.mp q
    simp at h1 h2
    exact ⟨by omega, by rw [h2]⟩
theorem serves_rng {lo hi : Int} {n : Nat} (hn : n = (hi - lo).toNat) : Serves G (Itr lo n) ι H none (rngI lo hi) where
  stop := fun rs ι' H' h' z x r u => by
    show n ≤ (rngI lo hi).length
    simp [rngI, hn]
  go := fun i d rs ι' H' h' z x r u e => by
    show i < n
    rw [hn]; exact (rng_at e).1
  item := fun i d rs ι' H' h' v H2 z x r u e y => by
    obtain ⟨rfl, rfl⟩ := y
    rw [(rng_at e).2]
    exact ⟨.refl, r, .int _, fun _ _ => rfl⟩

/-! ### iterators of expressions -/
section
variable {tg : Expr}
theorem it_new {pins : List (Addr × Obj)} {s : Shared} {Q : L2.It → Hp → Prop} {J : L2.It} {tn : Nat → Heap → Prop} {o : Obj} (I : Inv X pins σ H s) (T : Turn X.prog X.w X.K tg J [s.heap.objs.size] s.heap.objs.size tn) (t0 : tn 0 (s.heap.push o)) (q : Q J H) :
    PIE X pins σ tg Q (.ref s.heap.objs.size) { s with heap := s.heap.push o } := by
  have fresh : ∀ b ∈ [s.heap.objs.size], FpOk X pins H b := fun b m => by
    rw [List.mem_singleton] at m
    rw [m]; exact I.fpOk (Nat.le_refl _) I.fresh
  exact ⟨_, _, tn, J, H, rfl, I.kept (t' := s.toks) fun _ _ e => Heap.get?_push_of_some _ e, T, t0, fresh, q⟩
def iSeq (K : PySem.W.Frag) (te : TE) : TI := fun σ H Q => te σ H fun v H1 => ∃ a, v = .ref a ∧ ((∃ xs, SqL K H1 a xs) ∧ Q (Itl K a) H1 ∨ (∃ xs, SqT K H1 a xs) ∧ Q (Itt K a) H1)
theorem pi_seq {e : Expr} {te : TE} (he : PE X e te) : PI X tg e (iSeq X.K te) := by
  constructor
  intro pins s σ H Q I q
  refine thn (he.run pins s σ H _ I q) ?_
  rintro u s1 ⟨v, H1, I1, ru, a, rfl, q1⟩
  cases ru
  rcases q1 with ⟨⟨xs, hs⟩, q1⟩ | ⟨⟨xs, hs⟩, q1⟩
  · obtain ⟨its, -, pl, -⟩ := I1.list hs
    exact wpAny_pyIter_list pl.isList (it_new I1 (turn_list a _) ⟨_, Heap.get?_push_size _ rfl, rfl, rfl⟩ q1)
  · obtain ⟨its, -, pl, -⟩ := I1.tuple hs
    exact wpAny_pyIter_tuple (show s1.heap.IsTuple a its.toArray from pl) (it_new I1 (turn_tuple a _) ⟨_, Heap.get?_push_size _ rfl, rfl, rfl⟩ q1)
theorem x_sq {e : Expr} {ie : E} (g : Gd G W k N sc st X) (he : PE X e (tE G W cl ie)) : PI X tg e (tI G W cl (.sq ie)) := by
  refine PI.of (pi_seq he) ?_
  rintro σ H Q ⟨ι, ρ, q, er, rq, f⟩
  refine ⟨ι, ρ, q, er, rq, (FinV.bindI f).imp ?_⟩
  rintro v1 H1 ⟨ι1, d1, h1, e1, r1, q1, -, f1⟩
  cases es : seqOf h1 d1 with
  | none => rw [es] at f1; exact f1.elim
  | some xs =>
    rw [es] at f1
    rw [g.hK]
    obtain ⟨a, rfl, t⟩ := seq_stay r1 q1 es
    have un : ∀ {T : Hp → List V → Prop}, Stay G T ι1 H1 (srcOf h1 d1) xs → ∃ ys, T H1 ys := fun t => by
      obtain ⟨ys, q, -⟩ := t [] ι1 H1 h1 (fun _ m => nomatch m) .refl r1 (unch_src r1 q1)
      exact ⟨ys, q⟩
    refine ⟨a, rfl, ?_⟩
    rcases t with t | t
    · exact .inl ⟨un t, f1 ι1 H1 _ .refl r1 (serves_list t)⟩
    · exact .inr ⟨un t, f1 ι1 H1 _ .refl r1 (serves_tup t)⟩
theorem x_rv {e : Expr} {ie : E} {p pos : Pos} (g : Gd G W k N sc st X) (hg : Gl X "reversed") (hm : X.mg "reversed" = none) (he : PE X e (tE G W cl ie)) (pl : plainE e = true) : PI X tg (.Call (.Name "reversed" p) [e] [] pos) (tI G W cl (.rv ie)) := by
  refine PI.of (RT.pi_revA hg hm he (star_cons pl)) ?_
  rintro σ H Q ⟨ι, ρ, q, er, rq, f⟩
  refine ⟨ι, ρ, q, er, rq, (FinV.bindI f).imp ?_⟩
  rintro v1 H1 ⟨ι1, d1, h1, e1, r1, q1, -, f1⟩
  cases es : seqOf h1 d1 with
  | none => rw [es] at f1; exact f1.elim
  | some xs =>
    rw [es] at f1
    rw [g.hK]
    obtain ⟨a, rfl, t⟩ := seq_stay r1 q1 es
    rcases t with t | t
    · obtain ⟨ys, t1, t2⟩ := t [] ι1 H1 h1 (fun _ m => nomatch m) .refl r1 (unch_src r1 q1)
      exact ⟨a, ys, rfl, .inl ⟨t1, f1 ι1 H1 _ .refl r1 (serves_revL t2.length t)⟩⟩
    · obtain ⟨ys, t1, t2⟩ := t [] ι1 H1 h1 (fun _ m => nomatch m) .refl r1 (unch_src r1 q1)
      exact ⟨a, ys, rfl, .inr ⟨t1, f1 ι1 H1 _ .refl r1 (serves_revT t2.length t)⟩⟩
theorem small_lt {i : Int} (h : small62 i = true) : -(2 ^ 62) ≤ i ∧ i < 2 ^ 62 := by
  unfold small62 at h
  rw [Bool.and_eq_true, decide_eq_true_eq, decide_eq_true_eq] at h
  exact h
theorem x_rng1 {a : Expr} {ia : E} {p pos : Pos} (g : Gd G W k N sc st X) (hg : Gl X "range") (hm : X.mg "range" = none) (ha : PE X a (tE G W cl ia)) (pl : plainE a = true) : PI X tg (.Call (.Name "range" p) [a] [] pos) (tI G W cl (.rng (.cons ia .nil))) := by
  refine PI.of (pi_range1 hg hm (x_cons ha x_nil pl) (star_cons pl)) ?_
  rintro σ H Q ⟨ι, ρ, q, er, rq, f⟩
  refine ⟨ι, ρ, q, er, rq, (FinL.bindI f).imp ?_⟩
  rintro vs H1 ⟨ι1, ds, h1, e1, r1, q1, el0, f1⟩
  have el := evEs_len el0
  clear el0
  split at f1
  · rename_i j
    split at f1
    · rename_i hs
      cases q1 with
      | cons q1 qn =>
        cases qn
        rw [q1.intD]
        obtain ⟨s1, s2⟩ := small_lt hs
        exact ⟨j, rfl, s1, s2, f1 ι1 H1 _ .refl r1 (serves_rng (by simp))⟩
    · exact f1.elim
  · cases el
  · exact f1.elim
theorem x_rng2 {a b : Expr} {ia ib : E} {p pos : Pos} (g : Gd G W k N sc st X) (hg : Gl X "range") (hm : X.mg "range" = none) (ha : PE X a (tE G W cl ia)) (hb : PE X b (tE G W cl ib)) (pl : plainE a = true) (pl2 : plainE b = true) :
    PI X tg (.Call (.Name "range" p) [a, b] [] pos) (tI G W cl (.rng (.cons ia (.cons ib .nil)))) := by
  refine PI.of (pi_range2 hg hm (x_cons ha (x_cons hb x_nil pl2) pl) (by rw [star_cons pl, star_cons pl2]; rfl) (star_cons pl2)) ?_
  rintro σ H Q ⟨ι, ρ, q, er, rq, f⟩
  refine ⟨ι, ρ, q, er, rq, (FinL.bindI f).imp ?_⟩
  rintro vs H1 ⟨ι1, ds, h1, e1, r1, q1, el0, f1⟩
  have el := evEs_len el0
  clear el0
  split at f1
  · cases el
  · rename_i i j
    split at f1
    · rename_i hs
      rw [Bool.and_eq_true] at hs
      cases q1 with
      | cons q1 qn =>
        cases qn with
        | cons q2 qn =>
          cases qn
          rw [q1.intD, q2.intD]
          exact ⟨i, j, rfl, ⟨(small_lt hs.1).1, (small_lt hs.1).2, (small_lt hs.2).1, (small_lt hs.2).2⟩, f1 ι1 H1 _ .refl r1 (serves_rng rfl)⟩
    · exact f1.elim
  · exact f1.elim
end

/-! ### loops -/
theorem Out.of_inv {α : Type} {W : WX} {r : R α} {K : α → Hq → Out} {D : Ends} (f : FinO G W ι H (Out.of r ρ K) D) :
    (∃ a h1, r = .ok a h1 ∧ FinO G W ι H (K a h1) D) ∨ ∃ x h1, r = .xc x h1 ∧ FinO G W ι H (.xc x ρ h1) D := by
  cases r with
  | ok a h1 => exact .inl ⟨a, h1, rfl, f⟩
  | xc x h1 => exact .inr ⟨x, h1, rfl, f⟩
  | er => exact f.elim
/-- a target's store, then more -/
theorem FinO.asg {t : T} {K : Ev → Hq → Out} {D : Ends} (f : FinO G W ι H (Out.of (evT cl t d ρ h) ρ K) D) (hno : ∀ x h1, evT cl t d ρ h ≠ .xc x h1) :
    FinG G ι H σ t.slots (evT cl t d ρ h) fun σ1 H1 => ∃ ι1 ρ1 h1, Ext ι H ι1 H1 ∧ HR G ι1 h1 H1 ∧ ER G ι1 H1 ρ1 σ1 ∧ Off t.slots σ σ1 ∧ FinO G W ι1 H1 (K ρ1 h1) D := by
  cases e : evT cl t d ρ h with
  | ok ρ1 h1 =>
    rw [e] at f
    intro ι1 H1 σ1 x1 r1 er1 o1
    exact ⟨ι1, ρ1, h1, x1, r1, er1, o1, FinO.ext f x1⟩
  | xc x h1 => exact (hno x h1 e).elim
  | er => rw [e] at f; exact f.elim
mutual
theorem evT_no : ∀ (t : T) (d : D) (ρ : Ev) (h : Hq) (x : Xc) (h1 : Hq), evT cl t d ρ h ≠ .xc x h1
  | .nm i, d, ρ, h, x, h1, e => by unfold evT at e; cases e
  | .tp ts, d, ρ, h, x, h1, e => by
    unfold evT at e
    split at e
    · exact evTs_no ts _ ρ h x h1 e
    · cases e
  | .sub o i, d, ρ, h, x, h1, e => by
    unfold evT at e
    cases e1 : evE cl o ρ h with
    | ok d1 h1 =>
      rw [e1] at e
      have e : ((evE cl i ρ h1).nox.bind fun y h2 => match setOb h2 d1 y d with
        | some h3 => .ok ρ h3
        | none => .er) = .xc x _ := e
      cases e2 : evE cl i ρ h1 with
      | ok d2 h2 =>
        rw [e2] at e
        have e : (match setOb h2 d1 d2 d with
          | some h3 => R.ok ρ h3
          | none => .er) = .xc x _ := e
        split at e <;> cases e
      | xc => rw [e2] at e; cases e
      | er => rw [e2] at e; cases e
    | xc => rw [e1] at e; cases e
    | er => rw [e1] at e; cases e
  | .fld o i, d, ρ, h, x, h1, e => by
    unfold evT at e
    cases e1 : evE cl o ρ h with
    | ok d1 h1 =>
      rw [e1] at e
      have e : (match setFd h1 d1 i d with
          | some h2 => R.ok ρ h2
          | none => .er) = .xc x _ := e
      split at e <;> cases e
    | xc => rw [e1] at e; cases e
    | er => rw [e1] at e; cases e
theorem evTs_no : ∀ (ts : Ts) (ds : List D) (ρ : Ev) (h : Hq) (x : Xc) (h1 : Hq), evTs cl ts ds ρ h ≠ .xc x h1
  | .nil, [], ρ, h, x, h1, e => by unfold evTs at e; cases e
  | .nil, _ :: _, ρ, h, x, h1, e => by unfold evTs at e; cases e
  | .cons _ _, [], ρ, h, x, h1, e => by unfold evTs at e; cases e
  | .cons t ts, d :: ds, ρ, h, x, h1, e => by
    unfold evTs at e
    cases e1 : evT cl t d ρ h with
    | ok ρ1 h2 => rw [e1] at e; exact evTs_no ts ds ρ1 h2 x h1 e
    | xc => exact evT_no _ _ _ _ _ _ e1
    | er => rw [e1] at e; cases e
end
def aft (go : Ev → Hq → Out) (o : Out) : Out := match o with
  | .nx ρ2 h2 => go ρ2 h2
  | .ct ρ2 h2 => go ρ2 h2
  | .bk ρ2 h2 => .nx ρ2 h2
  | o => o
/-- a loop's turn: what its body's end asks -/
theorem FinO.turn {o : Out} {D : Ends} {N' : MSt → Hp → Prop} (go : Ev → Hq → Out) (hg : ∀ ρ2 h2, (o = .nx ρ2 h2 ∨ o = .ct ρ2 h2) → FinO G W ι H (go ρ2 h2) D → ∀ ι2 H2 σ2, Ext ι H ι2 H2 → HR G ι2 h2 H2 → ER G ι2 H2 ρ2 σ2 → N' σ2 H2)
    (f : FinO G W ι H (aft go o) D) : FinO G W ι H o { D with nx := N', ct := N', bk := D.nx } := by
  cases o with
  | nx ρ2 h2 => exact fun ι2 H2 σ2 x r e => hg ρ2 h2 (.inl rfl) f ι2 H2 σ2 x r e
  | ct ρ2 h2 => exact fun ι2 H2 σ2 x r e => hg ρ2 h2 (.inr rfl) f ι2 H2 σ2 x r e
  | bk ρ2 h2 => exact f
  | rt d ρ2 h2 => exact f
  | xc x ρ2 h2 => exact f
  | er => exact f
theorem y_whl {c : Expr} {body : List Stmt} {ic : E} {ib : Ss} {w : Nat} {pos : Pos} (g : Gd G W k N sc st X) (hc : PT X c (tT G W cl ic)) (hb : PSs X body (tSs G W cl w ib)) : PS X (.While c body [] pos) (tS G W cl w (.whl ic ib)) := by
  refine PS.of (ps_while g.own hc hb) ?_
  rintro D σ H ⟨ι, ρ, h, er, hr, f⟩
  refine ⟨fun m σ H => ∃ ι ρ h, ER G ι H ρ σ ∧ HR G ι h H ∧ FinO G W ι H (whileL (fun ρ h => tst (evE cl ic ρ h)) (fun ρ h => evSs cl w ib ρ h) m ρ h) D, ⟨w, ι, ρ, h, er, hr, f⟩, ?_⟩
  rintro m σ H ⟨ι, ρ, h, er, hr, f⟩
  cases m with
  | zero => exact f.elim
  | succ m =>
    refine ⟨ι, ρ, h, er, hr, ?_⟩
    rcases Out.of_inv f with ⟨b, h1, e, f1⟩ | ⟨x, h1, e, f1⟩
    · have e : tst (evE cl ic ρ h) = .ok b h1 := e
      rw [e]
      intro ι1 H1 x1 r1
      cases b with
      | false => exact f1 ι1 H1 σ x1 r1 (er.ext x1)
      | true =>
        rw [if_pos rfl]
        refine ⟨_, fun σ' H' z => ⟨m, Nat.lt_succ_self _, z⟩, ι1, ρ, h1, er.ext x1, r1, ?_⟩
        refine FinO.turn (whileL (fun ρ h => tst (evE cl ic ρ h)) (fun ρ h => evSs cl w ib ρ h) m) ?_ (FinO.ext f1 x1)
        intro ρ2 h2 _ f2 ι2 H2 σ2 x2 r2 er2
        exact ⟨ι2, ρ2, h2, er2, r2, FinO.ext f2 x2⟩
    · have e : tst (evE cl ic ρ h) = .xc x h1 := e
      rw [e]
      exact fun ι1 H1 cls dd x1 r1 q1 => f1 ι1 H1 σ cls dd x1 r1 (er.ext x1) q1
theorem y_for {tg iter : Expr} {body : List Stmt} {it : It} {t : T} {ib : Ss} {w : Nat} {pos : Pos} (g : Gd G W k N sc st X) (hi : PI X tg iter (tI G W cl it)) (hg : PG X tg (tG G cl t)) (hb : PSs X body (tSs G W cl w ib))
    (hs : ∀ x, foldedSetIterable iter X.env x = pure x) : PS X (.For tg iter body [] pos) (tS G W cl w (.for_ it t ib)) := by
  refine PS.of (ps_for g.own g.calm hi hg hb hs) ?_
  rintro D σ H ⟨ι, ρ, h, er, hr, f⟩
  refine ⟨ι, ρ, h, er, hr, ?_⟩
  rcases Out.of_inv f with ⟨sx, h1, e, f1⟩ | ⟨x, h1, e, f1⟩
  · rw [e]
    obtain ⟨s, xs⟩ := sx
    intro ι1 H1 J x1 r1 sv
    dsimp only at sv f1
    refine ⟨fun i m σ H => m + i = xs.length ∧ ∃ ι ρ h, Ext ι1 H1 ι H ∧ ER G ι H ρ σ ∧ HR G ι h H ∧ FinO G W ι H (forL s (fun d ρ h => evT cl t d ρ h) (fun ρ h => evSs cl w ib ρ h) (xs.drop i) ρ h) D,
      ⟨xs.length, by omega, ι1, ρ, h1, .refl, er.ext x1, r1, FinO.ext f1 x1⟩, ?_⟩
    rintro i m σ H ⟨him, ι, ρ, h, x, er, hr, f⟩
    cases hm : m with
    | zero =>
      have : i = xs.length := by omega
      subst this
      rw [List.drop_length] at f
      unfold forL at f
      split at f
      · rename_i u
        exact .inl ⟨sv.stop [] ι H h (fun _ m => nomatch m) x hr u, f ι H σ .refl hr er⟩
      · exact f.elim
    | succ m' =>
      subst hm
      have hi : i < xs.length := by omega
      rw [List.drop_eq_getElem_cons hi] at f
      unfold forL at f
      split at f
      · rename_i u
        have hx : xs[i]? = some xs[i] := by simp [hi]
        refine .inr ⟨sv.go i _ [] ι H h (fun _ m => nomatch m) x hr u hx, fun σ' H' => m' + (i + 1) = xs.length ∧ ∃ ι ρ h, Ext ι1 H1 ι H' ∧ ER G ι H' ρ σ' ∧ HR G ι h H' ∧ FinO G W ι H' (forL s (fun d ρ h => evT cl t d ρ h) (fun ρ h => evSs cl w ib ρ h) (xs.drop (i + 1)) ρ h) D, fun σ' H' z => ⟨m', Nat.lt_succ_self _, z⟩, ?_⟩
        intro v H2 y
        obtain ⟨x2, r2, q2, -⟩ := sv.item i _ [] ι H h v H2 (fun _ m => nomatch m) x hr u hx y
        refine ⟨ι, ρ, h, xs[i], er.ext x2, r2, q2, ?_⟩
        have f2 := FinO.asg (σ := σ) (FinO.ext f x2) (evT_no t _ ρ h)
        cases e2 : evT cl t xs[i] ρ h with
        | ok ρ3 h3 =>
          rw [e2] at f2
          intro ι3 H3 σ3 x3 r3 er3 o3
          obtain ⟨ι4, ρ4, h4, x4, r4, er4, -, f4⟩ := f2 ι3 H3 σ3 x3 r3 er3 o3
          refine ⟨ι4, ρ4, h4, er4, r4, FinO.turn (forL s (fun d ρ h => evT cl t d ρ h) (fun ρ h => evSs cl w ib ρ h) (xs.drop (i + 1))) ?_ f4⟩
          intro ρ5 h5 _ f5 ι5 H5 σ5 x5 r5 er5
          exact ⟨by omega, ι5, ρ5, h5, ((x.trans x2).trans x4).trans x5, er5, r5, FinO.ext f5 x5⟩
        | xc y h3 => exact (evT_no t _ ρ h y h3 e2).elim
        | er => rw [e2] at f2; exact f2.elim
      · exact f.elim
  · rw [e]
    exact fun ι1 H1 cls dd x1 r1 q1 => f1 ι1 H1 σ cls dd x1 r1 (er.ext x1) q1
end Rx

/-! RxH: comprehensions, statements. -/
namespace Rx
open PySem L2
variable {G : Gx} {W : WX} {cl : Cl} {k : Nat} {N : List Str} {sc : Scope} {st st' : List Str} {X : Cx}
variable {ι ι' : List Addr} {H H' : Hp} {h h' : Hq} {ρ : Ev} {σ σ' : MSt} {v : V} {d : D} {a : Addr}

/-! ### a reserved thing is written -/
/-- no tuple, nothing frozen -/
def Soft (o : HO) : Prop := (∀ xs, o ≠ .tup xs) ∧ ∀ x y, o ≠ .frz x y
theorem soft_lst {xs : List V} : Soft (.lst xs) := ⟨(fun _ e => nomatch e), (fun _ _ e => nomatch e)⟩
theorem soft_dK {xs : List (Key × V)} : Soft (.dK xs) := ⟨(fun _ e => nomatch e), (fun _ _ e => nomatch e)⟩
mutual
theorem VR.over {p : Addr} {u0 u : HO} (so : Soft u0) (m : p ∈ G.rs) (e : H p = some u0) : ∀ {v : V} {d : D}, VR G ι H v d → VR G ι (upd H p u) v d
  | _, _, .non => .non
  | _, _, .bl b => .bl b
  | _, _, .int i => .int i
  | _, _, .str x => .str x
  | _, _, .tup q r => by
    refine .tup ?_ (VRs.over so m e r)
    rcases q with ⟨n, q⟩ | q
    · refine .inl ⟨n, ?_⟩
      rcases q with q | ⟨o, q⟩
      · exact .inl (by rw [upd_ne (fun z => by rw [z, e] at q; cases q; exact so.1 _ rfl)]; exact q)
      · exact .inr ⟨o, by rw [upd_ne (fun z => by rw [z, e] at q; cases q; exact so.2 _ _ rfl)]; exact q⟩
    · exact .inr q
  | _, _, .lst n q r => .lst n (by rw [upd_ne (fun z => n.2 (by rw [z]; exact m))]; exact q) (VRs.over so m e r)
  | _, _, .slst q r => by
    refine .slst ?_ (VRs.over so m e r)
    rcases q with ⟨n, o, q⟩ | q
    · exact .inl ⟨n, o, by rw [upd_ne (fun z => by rw [z, e] at q; cases q; exact so.2 _ _ rfl)]; exact q⟩
    · exact .inr q
  | _, _, .dct n q z r1 r2 => .dct n (by rw [upd_ne (fun z => n.2 (by rw [z]; exact m))]; exact q) z (VRs.over so m e r1) (VRs.over so m e r2)
  | _, _, .ref q => .ref q
theorem VRs.over {p : Addr} {u0 u : HO} (so : Soft u0) (m : p ∈ G.rs) (e : H p = some u0) : ∀ {vs : List V} {ds : List D}, VRs G ι H vs ds → VRs G ι (upd H p u) vs ds
  | _, _, .nil => .nil
  | _, _, .cons r t => .cons (VR.over so m e r) (VRs.over so m e t)
end
theorem OR.over {p : Addr} {u0 u : HO} {o : Ob} (so : Soft u0) (m : p ∈ G.rs) (e : H p = Option.some u0) (hn : a ≠ p) (r : OR G ι H a o) : OR G ι (upd H p u) a o := by
  cases r with
  | lst q r => exact .lst (by rw [upd_ne hn]; exact q) (r.over so m e)
  | dct q z r1 r2 => exact .dct (by rw [upd_ne hn]; exact q) z (r1.over so m e) (r2.over so m e)
  | ins z q n r => exact .ins z (by rw [upd_ne hn]; exact q) n (r.over so m e)
theorem HR.over {p : Addr} {u0 u : HO} (so : Soft u0) (m : p ∈ G.rs) (e : H p = some u0) (r : HR G ι h H) : HR G ι h (upd H p u) :=
  ⟨r.len, r.nd, fun i o a h1 h2 => (r.at_ i o a h1 h2).over so m e (fun z => (r.rsv p m).1 (by rw [← z]; exact List.mem_of_getElem? h2)), fun a q => ⟨(r.rsv a q).1, upd_has (r.rsv a q).2⟩⟩
theorem Ext.over {p : Addr} {u : HO} (np : H p = none) (x : Ext ι H ι' H') : Ext ι H ι' (upd H' p u) :=
  ⟨x.pre, x.new, fun b o e n => by rw [upd_ne (ne_of_none e np)]; exact x.keep b o e n⟩

/-! ### a block -/
abbrev never : WX := fun _ _ _ _ => False
theorem Gd.blk (g : Gd G W k N sc st X) {s : Shared} {H0 : Hp} {scope : Scope} {C : Addr} {cs : List (Str × Addr)} {fp : List Addr} (hst : ∀ x ∈ st', (scope.names.lookup x == some .cell) = true ∨ (relS scope sc).names.lookup x = some .local) :
    Gd G never k N (relS scope sc) st' (X.blk s H0 scope (compEnvC scope cs C X.env) fp) where
  hN := g.hN
  hsc := by rw [← g.hsc]; rfl
  nd := g.nd
  hP := g.hP
  hw := g.hw
  hK := g.hK
  hm := g.hm
  hb := g.hb
  calm := g.calm
  rm := ⟨g.rm.1, g.rm.2⟩
  tk := fun u s' ⟨a, B, sI, pins, σ, H, cls, d, e, I, nb, up, sky, na, os, ag, w⟩ => w.elim
  own := PassesOwn.never
  sto := fun x hx => by
    rcases hst x hx with q | q
    · exact .inl q
    · refine .inr ?_
      rw [← g.hsc] at q
      exact q
/-- what the block's parts do, wherever it runs -/
structure LcOk (G : Gx) (cl : Cl) (k : Nat) (N : List Str) (sc : Scope) (st : List Str) (tg : Expr) (ifs : List Expr) (elt : Expr) (t : T) (cond x : E) : Prop where
  tg : ∀ rs X, Gd (G.ad rs) never k N sc st X → PG X tg (tG (G.ad rs) cl t)
  ts : ∀ rs X, Gd (G.ad rs) never k N sc st X → PTs X ifs (tT (G.ad rs) never cl cond)
  el : ∀ rs X, Gd (G.ad rs) never k N sc st X → PE X elt (tE (G.ad rs) never cl x)
theorem lc_read {it : It} {t : T} {cond x : E} {vs : List Nat} (hvs : vs = t.slots) {σ : MSt} {H : Hp} {Q : VK} (h : tE G W cl (.lc it t cond x) σ H Q) :
    tI G W cl it σ H fun J H1 => ∀ D, H1 D = none → ∃ Wi : Nat → Nat → Hp → Prop, (∃ m, Wi 0 m (upd H1 D (.lst []))) ∧ ∀ i m Hc, Wi i m Hc →
      (J.stop i Hc ∧ Q (.ref D) Hc) ∨ (J.go i Hc ∧ ∃ Nx : Hp → Prop, (∀ H', Nx H' → ∃ m', m' < m ∧ Wi (i + 1) m' H') ∧ ∀ v H2, J.yld i Hc v H2 → tG (G.ad [D]) cl t v (wipe σ vs) H2 fun σ2 H3 => wipe σ2 vs = wipe σ vs ∧ tT (G.ad [D]) never cl cond σ2 H3 fun b H4 =>
        if b = true then tE (G.ad [D]) never cl x σ2 H4 fun y H5 => ∃ acc, H5 D = some (.lst acc) ∧ acc.length < sizeLine ∧ Nx (upd H5 D (.lst (acc ++ [y]))) else Nx H4) := by
  subst hvs
  obtain ⟨ι, ρ, h, er, hr, f⟩ := h
  refine ⟨ι, ρ, h, er, hr, ?_⟩
  have f : FinV G W ι H σ ((evIt cl it ρ h).bind fun sx h1 => if fits sx.2.length then
      ((lcL sx.1 (fun d h => evT cl t d (wipeE ρ t.slots) h) (fun ρ h => tst (evE cl cond ρ h)) (fun ρ h => evE cl x ρ h) sx.2 h1).nox).bind fun ds h2 => .ok (.lst ds) h2
      else .er) Q := f
  cases e : evIt cl it ρ h with
  | er => rw [e] at f; exact f.elim
  | xc y h1 => rw [e] at f; exact f
  | ok sx h1 =>
    obtain ⟨s, xs⟩ := sx
    rw [e, R.bind_ok] at f
    dsimp only at f
    split at f
    · rename_i hfit
      have hfit : xs.length ≤ sizeLine := of_decide_eq_true hfit
      generalize hA : (fun d h => evT cl t d (wipeE ρ t.slots) h) = A at f
      generalize hB : (fun ρ h => tst (evE cl cond ρ h)) = B at f
      generalize hC : (fun ρ h => evE cl x ρ h) = C at f
      cases el : lcL s A B C xs h1 with
      | er => rw [el] at f; exact f.elim
      | xc => rw [el] at f; exact f.elim
      | ok ds h2 =>
        rw [el] at f
        have f : ∀ ι' H' v, Ext ι H ι' H' → HR G ι' h2 H' → VR G ι' H' v (.lst ds) → Q v H' := f
        intro ι1 H1 J x1 r1 sv D hD
        have fr : ∀ b ∈ [D], H1 b = none := fun b m => by rw [List.mem_singleton] at m; rw [m]; exact hD
        have mD : D ∈ (G.ad [D]).rs := List.mem_append_left _ (List.mem_singleton.mpr rfl)
        refine ⟨fun i m Hc => m + i = xs.length ∧ ∃ ι' h' acc ws dr, Ext ι1 H1 ι' Hc ∧ HR (G.ad [D]) ι' h' Hc ∧ Hc D = some (.lst acc) ∧ VRs (G.ad [D]) ι' Hc acc ws ∧ acc.length ≤ i ∧ lcL s A B C (xs.drop i) h' = .ok dr h2 ∧ ws ++ dr = ds,
          ⟨xs.length, by omega, ι1, h1, [], [], ds, Ext.laid r1 hD, r1.hold hD, upd_same, .nil, Nat.le_refl _, el, rfl⟩, ?_⟩
        rintro i m Hc ⟨him, ι', h', acc, ws, dr, xx, r, hd, va, hl, hlc, hws⟩
        cases hm : m with
        | zero =>
          have hi : i = xs.length := by omega
          subst hi
          rw [List.drop_length] at hlc
          unfold lcL at hlc
          split at hlc
          · rename_i u
            cases hlc
            refine .inl ⟨sv.stop [D] ι' Hc h2 fr xx r u, f ι' Hc _ (x1.trans xx) r.un ?_⟩
            rw [List.append_nil] at hws
            rw [← hws]
            exact .lst ⟨(r.rsv D mD).1, r1.nrs hD⟩ hd va.un
          · cases hlc
        | succ m' =>
          subst hm
          have hi : i < xs.length := by omega
          rw [List.drop_eq_getElem_cons hi] at hlc
          unfold lcL at hlc
          split at hlc
          · rename_i u
            have hx : xs[i]? = some xs[i] := by simp [hi]
            refine .inr ⟨sv.go i _ [D] ι' Hc h' fr xx r u hx, fun Hn => m' + (i + 1) = xs.length ∧ ∃ ι' h' acc ws dr, Ext ι1 H1 ι' Hn ∧ HR (G.ad [D]) ι' h' Hn ∧ Hn D = some (.lst acc) ∧ VRs (G.ad [D]) ι' Hn acc ws ∧ acc.length ≤ i + 1 ∧ lcL s A B C (xs.drop (i + 1)) h' = .ok dr h2 ∧ ws ++ dr = ds,
              fun H' z => ⟨m', Nat.lt_succ_self _, z⟩, ?_⟩
            intro v H2 y
            obtain ⟨x2, r2, q2, hD2⟩ := sv.item i _ [D] ι' Hc h' v H2 fr xx r u hx y
            have d2 : H2 D = some (.lst acc) := (hD2 D (List.mem_singleton.mpr rfl)).trans hd
            refine ⟨ι', wipeE ρ t.slots, h', xs[i], ((((er.ext x1).ad fr).ext xx).ext x2).wiped, r2, q2, ?_⟩
            cases eA : A xs[i] h' with
            | er => rw [eA] at hlc; cases hlc
            | xc => rw [eA] at hlc; cases hlc
            | ok ρ3 h3 =>
              rw [eA, R.bind_ok] at hlc
              have eA' : evT cl t xs[i] (wipeE ρ t.slots) h' = .ok ρ3 h3 := by rw [← hA] at eA; exact eA
              rw [eA']
              intro ι3 H3 σ3 x3 r3 er3 o3
              have d3 : H3 D = some (.lst acc) := x3.keep D _ d2 (r2.rsv D mD).1
              refine ⟨o3.wipe.trans wipe_twice, ι3, ρ3, h3, er3, r3, ?_⟩
              cases eB : B ρ3 h3 with
              | er => rw [eB] at hlc; cases hlc
              | xc => rw [eB] at hlc; cases hlc
              | ok b h4 =>
                rw [eB, R.bind_ok] at hlc
                have eB' : tst (evE cl cond ρ3 h3) = .ok b h4 := by rw [← hB] at eB; exact eB
                rw [eB']
                intro ι4 H4 x4 r4
                have d4 : H4 D = some (.lst acc) := x4.keep D _ d3 (r3.rsv D mD).1
                cases b with
                | false =>
                  exact ⟨by omega, ι4, h4, acc, ws, dr, ((xx.trans x2).trans x3).trans x4, r4, d4, ((va.ext x2).ext x3).ext x4, by omega, hlc, hws⟩
                | true =>
                  rw [if_pos rfl]
                  rw [if_pos rfl] at hlc
                  refine ⟨ι4, ρ3, h4, er3.ext x4, r4, ?_⟩
                  cases eC : C ρ3 h4 with
                  | er => rw [eC] at hlc; cases hlc
                  | xc => rw [eC] at hlc; cases hlc
                  | ok w h5 =>
                    rw [eC, R.bind_ok] at hlc
                    have eC' : evE cl x ρ3 h4 = .ok w h5 := by rw [← hC] at eC; exact eC
                    rw [eC']
                    intro ι5 H5 v5 x5 r5 q5
                    have d5 : H5 D = some (.lst acc) := x5.keep D _ d4 (r4.rsv D mD).1
                    cases eL : lcL s A B C (xs.drop (i + 1)) h5 with
                    | er => rw [eL] at hlc; cases hlc
                    | xc => rw [eL] at hlc; cases hlc
                    | ok dr' h6 =>
                      rw [eL, R.bind_ok] at hlc
                      cases hlc
                      refine ⟨acc, d5, by omega, by omega, ι5, h5, acc ++ [v5], ws ++ [w], dr', (((((xx.trans x2).trans x3).trans x4).trans x5).over hD), r5.over soft_lst mD d5, upd_same, ?_, by simp; omega, eL, by rw [← hws]; simp⟩
                      exact VRs.over soft_lst mD d5 (((((va.ext x2).ext x3).ext x4).ext x5).append (.cons q5 .nil))
          · cases hlc
    · exact f.elim
theorem PE.any {α : Type} {e : Expr} {t : α → TE} (h : ∀ a, PE X e (t a)) : PE X e fun σ H Q => ∃ a, t a σ H Q := ⟨fun pins s σ H Q I ⟨a, q⟩ => (h a).run pins s σ H Q I q⟩
theorem PTs.any {α : Type} {e : List Expr} {t : α → TT} (h : ∀ a, PTs X e (t a)) : PTs X e fun σ H Q => ∃ a, t a σ H Q := ⟨fun pins s σ H Q I ⟨a, q⟩ => (h a).run pins s σ H Q I q⟩
theorem PG.any {α : Type} {e : Expr} {t : α → TG} (h : ∀ a, PG X e (t a)) : PG X e fun v σ H Q => ∃ a, t a v σ H Q := ⟨fun pins s σ H v u Q I r ⟨a, q⟩ => (h a).run pins s σ H v u Q I r q⟩
abbrev lcT (G : Gx) (W : WX) (cl : Cl) (it : It) (t : T) (cond x : E) : TE :=
  tLc (tI G W cl it) (fun v σ H Q => ∃ rs, tG (G.ad rs) cl t v σ H Q) (fun σ H Q => ∃ rs, tT (G.ad rs) never cl cond σ H Q) (fun σ H Q => ∃ rs, tE (G.ad rs) never cl x σ H Q) t.slots
theorem FinG.imp {vs : List Nat} {r : R Ev} {Q Q' : MSt → Hp → Prop} (f : FinG G ι H σ vs r Q) (i : ∀ σ H, Q σ H → Q' σ H) : FinG G ι H σ vs r Q' := by
  cases r with
  | ok ρ1 h1 => exact fun ι2 H2 σ2 x r e o => i _ _ (f ι2 H2 σ2 x r e o)
  | xc => exact f
  | er => exact f
theorem FinI.imp {r : R (Src × List D)} {Q Q' : L2.It → Hp → Prop} (f : FinI G W ι H σ r Q) (i : ∀ J H, Q J H → Q' J H) : FinI G W ι H σ r Q' := by
  cases r with
  | ok sx h1 => exact fun ι2 H2 J x r s => i _ _ (f ι2 H2 J x r s)
  | xc => exact f
  | er => exact f
theorem tG.imp {t : T} {v : V} {Q Q' : MSt → Hp → Prop} (f : tG G cl t v σ H Q) (i : ∀ σ H, Q σ H → Q' σ H) : tG G cl t v σ H Q' := by
  obtain ⟨ι, ρ, h, d, e, r, q, f⟩ := f
  exact ⟨ι, ρ, h, d, e, r, q, f.imp i⟩
theorem tE.imp {x : E} {Q Q' : VK} (f : tE G W cl x σ H Q) (i : ∀ v H, Q v H → Q' v H) : tE G W cl x σ H Q' := by
  obtain ⟨ι, ρ, h, e, r, f⟩ := f
  exact ⟨ι, ρ, h, e, r, f.imp i⟩
theorem tT.imp {x : E} {Q Q' : Bool → Hp → Prop} (f : tT G W cl x σ H Q) (i : ∀ v H, Q v H → Q' v H) : tT G W cl x σ H Q' := by
  obtain ⟨ι, ρ, h, e, r, f⟩ := f
  exact ⟨ι, ρ, h, e, r, f.imp i⟩
theorem lc_tLc {it : It} {t : T} {cond x : E} {σ : MSt} {H : Hp} {Q : VK} (h : tE G W cl (.lc it t cond x) σ H Q) : lcT G W cl it t cond x σ H Q := by
  obtain ⟨ι, ρ, hq, er, hr, f⟩ := lc_read (vs := t.slots) rfl h
  refine ⟨ι, ρ, hq, er, hr, f.imp ?_⟩
  intro J H1 q D hD
  obtain ⟨Wi, m0, step⟩ := q D hD
  refine ⟨Wi, m0, fun i m Hc w => ?_⟩
  rcases step i m Hc w with z | ⟨go, Nx, hN, z⟩
  · exact .inl z
  · refine .inr ⟨go, Nx, hN, fun v H2 y => ⟨[D], (z v H2 y).imp ?_⟩⟩
    rintro σ2 H3 ⟨e, t⟩
    refine ⟨e, [D], t.imp ?_⟩
    intro b H4 q
    cases b with
    | false => exact q
    | true => exact ⟨[D], q⟩
theorem DO.soft {o : HO} {kvs vvs : List V} {ks : List D} (z : DO G a o kvs vvs ks) : Soft o := ⟨z.notTup.1, z.notTup.2.1⟩
theorem length_dput (ks vs : List D) (k v : D) : (dput ks vs k v).1.length ≤ ks.length + 1 := by
  unfold dput
  split
  · exact Nat.le_succ _
  · rw [List.length_append]; exact Nat.le_refl _
structure DcOk (G : Gx) (cl : Cl) (k : Nat) (N : List Str) (sc : Scope) (st : List Str) (tg : Expr) (ifs : List Expr) (kx vx : Expr) (t : T) (cond ik iv : E) : Prop where
  tg : ∀ rs X, Gd (G.ad rs) never k N sc st X → PG X tg (tG (G.ad rs) cl t)
  ts : ∀ rs X, Gd (G.ad rs) never k N sc st X → PTs X ifs (tT (G.ad rs) never cl cond)
  ky : ∀ rs X, Gd (G.ad rs) never k N sc st X → PE X kx (tE (G.ad rs) never cl ik)
  vl : ∀ rs X, Gd (G.ad rs) never k N sc st X → PE X vx (tE (G.ad rs) never cl iv)
abbrev dcT (G : Gx) (W : WX) (cl : Cl) (it : It) (t : T) (cond ik iv : E) : TE :=
  tDx G (tI G W cl it) (fun v σ H Q => ∃ rs, tG (G.ad rs) cl t v σ H Q) (fun σ H Q => ∃ rs, tT (G.ad rs) never cl cond σ H Q) (fun σ H Q => ∃ rs, tE (G.ad rs) never cl ik σ H Q) (fun σ H Q => ∃ rs, tE (G.ad rs) never cl iv σ H Q) t.slots
theorem dc_tDc {it : It} {t : T} {cond ik iv : E} {σ : MSt} {H : Hp} {Q : VK} (h : tE G W cl (.dc it t cond ik iv) σ H Q) : dcT G W cl it t cond ik iv σ H Q := by
  obtain ⟨ι, ρ, h, er, hr, f⟩ := h
  refine ⟨ι, ρ, h, er, hr, ?_⟩
  have f : FinV G W ι H σ ((evIt cl it ρ h).bind fun sx h1 => if fits sx.2.length then
      ((dcL sx.1 (fun d h => evT cl t d (wipeE ρ t.slots) h) (fun ρ h => tst (evE cl cond ρ h)) (fun ρ h => evE cl ik ρ h) (fun ρ h => evE cl iv ρ h) sx.2 [] [] h1).nox).bind fun kv h2 => .ok (.dct kv.1 kv.2) h2
      else .er) Q := f
  cases e : evIt cl it ρ h with
  | er => rw [e] at f; exact f.elim
  | xc y h1 => rw [e] at f; exact f
  | ok sx h1 =>
    obtain ⟨s, xs⟩ := sx
    rw [e, R.bind_ok] at f
    dsimp only at f
    split at f
    · rename_i hfit
      have hfit : xs.length ≤ sizeLine := of_decide_eq_true hfit
      generalize hA : (fun d h => evT cl t d (wipeE ρ t.slots) h) = A at f
      generalize hB : (fun ρ h => tst (evE cl cond ρ h)) = B at f
      generalize hC : (fun ρ h => evE cl ik ρ h) = C at f
      generalize hE : (fun ρ h => evE cl iv ρ h) = F at f
      cases el : dcL s A B C F xs [] [] h1 with
      | er => rw [el] at f; exact f.elim
      | xc => rw [el] at f; exact f.elim
      | ok kv h2 =>
        rw [el] at f
        have f : ∀ ι' H' v, Ext ι H ι' H' → HR G ι' h2 H' → VR G ι' H' v (.dct kv.1 kv.2) → Q v H' := f
        intro ι1 H1 J x1 r1 sv D hD
        have fr : ∀ b ∈ [D], H1 b = none := fun b m => by rw [List.mem_singleton] at m; rw [m]; exact hD
        have mD : D ∈ (G.ad [D]).rs := List.mem_append_left _ (List.mem_singleton.mpr rfl)
        have key : ∃ Wi : Nat → Nat → Hp → Prop, Wi = fun i m Hc => m + i = xs.length ∧ ∃ ι' h' o kvs vvs ks vs, Ext ι1 H1 ι' Hc ∧ HR (G.ad [D]) ι' h' Hc ∧ Hc D = some o ∧ DO G D o kvs vvs ks ∧ VRs (G.ad [D]) ι' Hc kvs ks ∧ VRs (G.ad [D]) ι' Hc vvs vs ∧ ks.length ≤ i ∧ dcL s A B C F (xs.drop i) ks vs h' = .ok kv h2 := ⟨_, rfl⟩
        obtain ⟨Wi, hWi⟩ := key
        refine ⟨Wi, ⟨xs.length, ?_⟩, ?_⟩
        · rw [hWi]
          exact ⟨by omega, ι1, h1, .dK [], [], [], [], [], Ext.laid r1 hD, r1.hold hD, upd_same, .flat [], .nil, .nil, Nat.le_refl _, el⟩
        intro i m Hc w
        rw [hWi] at w
        obtain ⟨him, ι', h', o, kvs, vvs, ks, ws, xx, r, hd, dd, vk, va, hl, hlc⟩ := w
        cases hm : m with
        | zero =>
          have hi : i = xs.length := by omega
          subst hi
          rw [List.drop_length] at hlc
          unfold dcL at hlc
          split at hlc
          · rename_i u
            cases hlc
            refine .inl ⟨sv.stop [D] ι' Hc h2 fr xx r u, f ι' Hc _ (x1.trans xx) r.un ?_⟩
            exact .dct ⟨(r.rsv D mD).1, r1.nrs hD⟩ hd dd vk.un va.un
          · cases hlc
        | succ m' =>
          subst hm
          have hi : i < xs.length := by omega
          rw [List.drop_eq_getElem_cons hi] at hlc
          unfold dcL at hlc
          split at hlc
          · rename_i u
            have hx : xs[i]? = some xs[i] := by simp [hi]
            refine .inr ⟨sv.go i _ [D] ι' Hc h' fr xx r u hx, fun Hn => Wi (i + 1) m' Hn, fun H' z => ⟨m', Nat.lt_succ_self _, z⟩, ?_⟩
            intro v H2 y
            obtain ⟨x2, r2, q2, hD2⟩ := sv.item i _ [D] ι' Hc h' v H2 fr xx r u hx y
            have d2 : H2 D = some o := (hD2 D (List.mem_singleton.mpr rfl)).trans hd
            refine ⟨[D], ι', wipeE ρ t.slots, h', xs[i], ((((er.ext x1).ad fr).ext xx).ext x2).wiped, r2, q2, ?_⟩
            cases eA : A xs[i] h' with
            | er => rw [eA] at hlc; cases hlc
            | xc => rw [eA] at hlc; cases hlc
            | ok ρ3 h3 =>
              rw [eA, R.bind_ok] at hlc
              have eA' : evT cl t xs[i] (wipeE ρ t.slots) h' = .ok ρ3 h3 := by rw [← hA] at eA; exact eA
              rw [eA']
              intro ι3 H3 σ3 x3 r3 er3 o3
              have d3 : H3 D = some o := x3.keep D _ d2 (r2.rsv D mD).1
              refine ⟨o3.wipe.trans wipe_twice, [D], ι3, ρ3, h3, er3, r3, ?_⟩
              cases eB : B ρ3 h3 with
              | er => rw [eB] at hlc; cases hlc
              | xc => rw [eB] at hlc; cases hlc
              | ok b h4 =>
                rw [eB, R.bind_ok] at hlc
                have eB' : tst (evE cl cond ρ3 h3) = .ok b h4 := by rw [← hB] at eB; exact eB
                rw [eB']
                intro ι4 H4 x4 r4
                have d4 : H4 D = some o := x4.keep D _ d3 (r3.rsv D mD).1
                cases b with
                | false =>
                  rw [if_neg (by decide), hWi]
                  exact ⟨by omega, ι4, h4, o, kvs, vvs, ks, ws, ((xx.trans x2).trans x3).trans x4, r4, d4, dd, ((vk.ext x2).ext x3).ext x4, ((va.ext x2).ext x3).ext x4, by omega, hlc⟩
                | true =>
                  rw [if_pos rfl]
                  rw [if_pos rfl] at hlc
                  refine ⟨[D], ι4, ρ3, h4, er3.ext x4, r4, ?_⟩
                  cases eC : C ρ3 h4 with
                  | er => rw [eC] at hlc; cases hlc
                  | xc => rw [eC] at hlc; cases hlc
                  | ok w h5 =>
                    rw [eC, R.bind_ok] at hlc
                    have eC' : evE cl ik ρ3 h4 = .ok w h5 := by rw [← hC] at eC; exact eC
                    rw [eC']
                    intro ι5 H5 v5 x5 r5 q5
                    have d5 : H5 D = some o := x5.keep D _ d4 (r4.rsv D mD).1
                    refine ⟨[D], ι5, ρ3, h5, (er3.ext x4).ext x5, r5, ?_⟩
                    cases eF : F ρ3 h5 with
                    | er => rw [eF] at hlc; cases hlc
                    | xc => rw [eF] at hlc; cases hlc
                    | ok z h6 =>
                      rw [eF, R.bind_ok] at hlc
                      have eF' : evE cl iv ρ3 h5 = .ok z h6 := by rw [← hE] at eF; exact eF
                      rw [eF']
                      intro ι6 H6 v6 x6 r6 q6
                      have d6 : H6 D = some o := x6.keep D _ d5 (r5.rsv D mD).1
                      split at hlc
                      · rename_i hfl
                        have va6 := ((((va.ext x2).ext x3).ext x4).ext x5).ext x6
                        have vk6 := ((((vk.ext x2).ext x3).ext x4).ext x5).ext x6
                        obtain ⟨o', kvs', vvs', pu, dd', k', v'⟩ := put_ok (G := G.ad [D]) d6 dd vk6 va6 (q5.ext x6) q6 hfl (by omega)
                        refine ⟨o', pu, ?_⟩
                        rw [hWi]
                        have so := dd.soft
                        refine ⟨by omega, ι6, h6, o', kvs', vvs', _, _, (((((xx.trans x2).trans x3).trans x4).trans x5).trans x6).over hD, r6.over so mD d6, upd_same, dd', VRs.over so mD d6 k', VRs.over so mD d6 v', ?_, hlc⟩
                        have := length_dput ks ws w z
                        omega
                      · cases hlc
          · cases hlc
    · exact f.elim
section
variable {elt tg iter : Expr} {ifs : List Expr} {scope : Scope} {own : List (Str × Nat)} {pos : Pos} {it : It} {t : T} {cond x : E}
theorem x_lc (g : Gd G W k N sc st X) (hi : PI X tg iter (tI G W cl it)) (ok : BlkOk N sc scope own) (hown : own.map (·.2) = t.slots)
    (hst : ∀ x ∈ st', (scope.names.lookup x == some .cell) = true ∨ (relS scope sc).names.lookup x = some .local) (hb : LcOk G cl k N (relS scope sc) st' tg ifs elt t cond x) (hs : ∀ x, foldedSetIterable iter X.env x = pure x) :
    PE X (.ListComp elt [⟨tg, iter, ifs, 0⟩] scope pos) (tE G W cl (.lc it t cond x)) := by
  refine PE.of (pe_lc g.calm (by rw [g.hN]; exact g.nd) hi (by rw [g.hN, g.hsc]; exact ok) (fun s H C cs fp => PG.any fun rs => hb.tg rs _ (g.blk hst).ad) (fun s H C cs fp => PTs.any fun rs => hb.ts rs _ (g.blk hst).ad)
    (fun s H C cs fp => PE.any fun rs => hb.el rs _ (g.blk hst).ad) hs) ?_
  intro σ H Q h
  rw [hown]
  exact lc_tLc h

theorem DcOk.dx {kx vx : Expr} {ik iv : E} (hb : DcOk G cl k N (relS scope sc) st' tg ifs kx vx t cond ik iv) (g : Gd G W k N sc st X) (hst : ∀ x ∈ st', (scope.names.lookup x == some .cell) = true ∨ (relS scope sc).names.lookup x = some .local) :
    DxOk X scope tg ifs kx vx (fun v σ H Q => ∃ rs, tG (G.ad rs) cl t v σ H Q) (fun σ H Q => ∃ rs, tT (G.ad rs) never cl cond σ H Q) (fun σ H Q => ∃ rs, tE (G.ad rs) never cl ik σ H Q) (fun σ H Q => ∃ rs, tE (G.ad rs) never cl iv σ H Q) where
  tg := fun s H C cs fp => PG.any fun rs => hb.tg rs _ (g.blk hst).ad
  ts := fun s H C cs fp => PTs.any fun rs => hb.ts rs _ (g.blk hst).ad
  ky := fun s H C cs fp => PE.any fun rs => hb.ky rs _ (g.blk hst).ad
  vl := fun s H C cs fp => PE.any fun rs => hb.vl rs _ (g.blk hst).ad
theorem x_dc {kx vx : Expr} {ik iv : E} (g : Gd G W k N sc st X) (hi : PI X tg iter (tI G W cl it)) (ok : BlkOk N sc scope own) (hown : own.map (·.2) = t.slots)
    (hst : ∀ x ∈ st', (scope.names.lookup x == some .cell) = true ∨ (relS scope sc).names.lookup x = some .local) (hb : DcOk G cl k N (relS scope sc) st' tg ifs kx vx t cond ik iv) (hs : ∀ x, foldedSetIterable iter X.env x = pure x) :
    PE X (.DictComp kx vx [⟨tg, iter, ifs, 0⟩] scope pos) (tE G W cl (.dc it t cond ik iv)) := by
  refine PE.of (pe_dx (σ := []) g.hK g.hP g.hw g.rm.u64 g.calm (by rw [g.hN]; exact g.nd) hi (by rw [g.hN, g.hsc]; exact ok) (hb.dx g hst) hs) ?_
  intro σ H Q h
  rw [hown]
  exact dc_tDc h

/-! ### statements -/
theorem asg_read {t : T} {e : E} {w : Nat} {σ : MSt} {H : Hp} {D : Ends} (h : tS G W cl w (.asg t e) D σ H) : tE G W cl e σ H fun v H1 => tG G cl t v σ H1 D.nx := by
  obtain ⟨ι, ρ, hq, er, hr, f⟩ := h
  refine ⟨ι, ρ, hq, er, hr, ?_⟩
  rcases Out.of_inv f with ⟨d, h1, e1, f1⟩ | ⟨x, h1, e1, f1⟩
  · rw [e1]
    intro ι1 H1 v x1 r1 q1
    refine ⟨ι1, ρ, h1, d, er.ext x1, r1, q1, (FinO.asg (f1.ext x1) (evT_no t d ρ h1)).imp ?_⟩
    rintro σ2 H2 ⟨ι2, ρ2, h2, x2, r2, er2, -, f2⟩
    exact f2 ι2 H2 σ2 .refl r2 er2
  · rw [e1]
    exact fun ι1 H1 cls dd x1 r1 q1 => f1 ι1 H1 σ cls dd x1 r1 (er.ext x1) q1
theorem y_asg {tg e : Expr} {t : T} {ie : E} {w : Nat} (he : PE X e (tE G W cl ie)) (hg : PG X tg (tG G cl t)) (hs : swapsWithSole [tg] e pos.line X.env = pure false) (hw : swappedStores [tg] e X.env = pure none) (hp : plainG tg = true) :
    PS X (.Assign [tg] e pos) (tS G W cl w (.asg t ie)) :=
  PS.of (ps_asg he hg hs hw (by rw [asg_cons hp]; rfl)) fun D σ H h => asg_read h
theorem y_set {i : Nat} {x : Str} {px : Pos} {e : Expr} {ie : E} {w : Nat} (g : Gd G W k N sc st X) (hi : N[i]? = some x) (hx : Loc sc x) (hf : x ∈ st) (he : PE X e (tE G W cl ie)) (hs : swapsWith e (some (.Name x px)) pos.line X.env = pure false) :
    PS X (.Assign [.Name x px] e pos) (tS G W cl w (.asg (.nm i) ie)) := by
  refine PS.of (ps_set (i := i) (by rw [g.hN]; exact g.nd) (by rw [g.hN]; exact hi) (by rw [g.hsc]; exact hx) he hs (g.sto x hf)) fun D σ H h => ?_
  refine (asg_read h).imp ?_
  rintro v H1 ⟨ι, ρ, hq, d, er, hr, q, f⟩
  exact f ι H1 _ .refl hr (er.set q) Off.set
theorem y_setLc {i : Nat} {y : Str} {py spos : Pos} {w : Nat} (g : Gd G W k N sc st X) (hy : N[i]? = some y) (hyl : sc.names.lookup y = some .local) (hsw : swapsWith (.ListComp elt [⟨tg, iter, ifs, 0⟩] scope pos) (some (.Name y py)) spos.line X.env = pure true)
    (hi : PI X tg iter (tI G W cl it)) (ok : BlkOk N sc scope own) (hown : own.map (·.2) = t.slots)
    (hst : ∀ x ∈ st', (scope.names.lookup x == some .cell) = true ∨ (relS scope sc).names.lookup x = some .local) (hb : LcOk G cl k N (relS scope sc) st' tg ifs elt t cond x) (hs : ∀ x, foldedSetIterable iter X.env x = pure x) :
    PS X (.Assign [.Name y py] (.ListComp elt [⟨tg, iter, ifs, 0⟩] scope pos) spos) (tS G W cl w (.asg (.nm i) (.lc it t cond x))) := by
  refine PS.of (ps_setLc g.calm (by rw [g.hN]; exact g.nd) (by rw [g.hN]; exact hy) (by rw [g.hsc]; exact hyl) hsw hi (by rw [g.hN, g.hsc]; exact ok) (fun s H C cs fp => PG.any fun rs => hb.tg rs _ (g.blk hst).ad) (fun s H C cs fp => PTs.any fun rs => hb.ts rs _ (g.blk hst).ad)
    (fun s H C cs fp => PE.any fun rs => hb.el rs _ (g.blk hst).ad) hs) ?_
  intro D σ H h
  rw [hown]
  refine lc_tLc ((asg_read h).imp ?_)
  rintro v H1 ⟨ι, ρ, hq, d, er, hr, q, f⟩
  exact f ι H1 _ .refl hr (er.set q) Off.set
theorem y_setDc {i : Nat} {y : Str} {py spos : Pos} {w : Nat} {kx vx : Expr} {ik iv : E} (g : Gd G W k N sc st X) (hy : N[i]? = some y) (hyl : sc.names.lookup y = some .local) (hsw : swapsWith (.DictComp kx vx [⟨tg, iter, ifs, 0⟩] scope pos) (some (.Name y py)) spos.line X.env = pure true)
    (hi : PI X tg iter (tI G W cl it)) (ok : BlkOk N sc scope own) (hown : own.map (·.2) = t.slots)
    (hst : ∀ x ∈ st', (scope.names.lookup x == some .cell) = true ∨ (relS scope sc).names.lookup x = some .local) (hb : DcOk G cl k N (relS scope sc) st' tg ifs kx vx t cond ik iv) (hs : ∀ x, foldedSetIterable iter X.env x = pure x) :
    PS X (.Assign [.Name y py] (.DictComp kx vx [⟨tg, iter, ifs, 0⟩] scope pos) spos) (tS G W cl w (.asg (.nm i) (.dc it t cond ik iv))) := by
  have hN : X.N.Nodup := by rw [g.hN]; exact g.nd
  have hy' : X.N[i]? = some y := by rw [g.hN]; exact hy
  have hyl' : X.env.scope.names.lookup y = some .local := by rw [g.hsc]; exact hyl
  constructor
  intro pins s σ H D I h
  have rd : dcT G W cl it t cond ik iv σ H fun v H1 => D.nx (σ.set i (some v)) H1 := by
    refine dc_tDc ((asg_read h).imp ?_)
    rintro v H1 ⟨ι, ρ, hq, d, er, hr, q, f⟩
    exact f ι H1 _ .refl hr (er.set q) Off.set
  unfold dcT at rd
  rw [← hown] at rd
  rw [exec_Assign_Name_used _ _ _ _ hsw]
  apply wpAny_bind
  apply wpAny_standAt
  apply wpAny_bind
  change wpAny _ X.A (comprehension (.DictComp kx vx [⟨tg, iter, ifs, 0⟩] scope pos) scope X.env (firstIterPos [⟨tg, iter, ifs, 0⟩] pos) newDict false (eval iter X.env) (some (assign (.Name y py) X.env)) >>= fun _ => pure ()) _ _ s
  apply wpAny_bind
  refine thn (dx_core (Qf := fun _ s' => SP X pins D .next s') g.hK g.hP g.hw g.rm.u64 g.calm hN I hi (by rw [g.hN, g.hsc]; exact ok) (hb.dx g hst) hs rd ?_) (fun _ s' hq => wpAny_pure (wpAny_pure hq))
  intro L C s' m H' I' q hn ⟨f0, f1, f2, f3, f4, f5⟩
  change wpAny _ _ (assign (.Name y py) X.env (.ref L)) _ _ _
  apply wpAny_assign_Name
  refine store_ok2 (v := V.ref L) I' hN hy' (.inl hyl') rfl ?_ (.inr hyl')
  rintro s2 I2 ⟨b, sb, hb'⟩
  have apart : C ≠ b := by
    rcases hb' with z | z
    · rw [z]; exact f1
    · exact fun e => f4 y b z e.symm
  exact ⟨m, hn.sameBut sb apart, fun h3 sb3 => ⟨_, H', I2.turned (t' := s2.toks) (fun b o hb e => (sb3.2 b hb).trans e) f0 f1 f3 f4 f5, q⟩⟩
end
theorem y_ex {e : Expr} {ie : E} {w : Nat} {pos : Pos} (he : PE X e (tE G W cl ie)) (hs : swapsWith e none pos.line X.env = pure false) : PS X (.Expr e pos) (tS G W cl w (.ex ie)) := by
  refine PS.of (ps_expr he hs) ?_
  rintro D σ H ⟨ι, ρ, hq, er, hr, f⟩
  refine ⟨ι, ρ, hq, er, hr, ?_⟩
  rcases Out.of_inv f with ⟨d, h1, e1, f1⟩ | ⟨x, h1, e1, f1⟩
  · rw [e1]
    exact fun ι1 H1 v x1 r1 q1 => f1 ι1 H1 σ x1 r1 (er.ext x1)
  · rw [e1]
    exact fun ι1 H1 cls dd x1 r1 q1 => f1 ι1 H1 σ cls dd x1 r1 (er.ext x1) q1
theorem y_ret {e : Expr} {ie : E} {w : Nat} {pos : Pos} (he : PE X e (tE G W cl ie)) : PS X (.Return (some e) pos) (tS G W cl w (.ret ie)) := by
  refine PS.of (ps_ret he) ?_
  rintro D σ H ⟨ι, ρ, hq, er, hr, f⟩
  refine ⟨ι, ρ, hq, er, hr, ?_⟩
  rcases Out.of_inv f with ⟨d, h1, e1, f1⟩ | ⟨x, h1, e1, f1⟩
  · rw [e1]
    exact fun ι1 H1 v x1 r1 q1 => f1 ι1 H1 v x1 r1 q1
  · rw [e1]
    exact fun ι1 H1 cls dd x1 r1 q1 => f1 ι1 H1 σ cls dd x1 r1 (er.ext x1) q1
theorem y_retN {w : Nat} {pos : Pos} : PS X (.Return none pos) (tS G W cl w (.ret (.c .non))) := by
  refine PS.of ps_retN ?_
  rintro D σ H ⟨ι, ρ, hq, er, hr, f⟩
  exact f ι H .non .refl hr .non
theorem y_if {c : Expr} {p q : List Stmt} {ic : E} {ia ib : Ss} {w : Nat} {pos : Pos} (hc : PT X c (tT G W cl ic)) (ha : PSs X p (tSs G W cl w ia)) (hb : PSs X q (tSs G W cl w ib)) : PS X (.If c p q pos) (tS G W cl w (.ite ic ia ib)) := by
  refine PS.of (ps_if hc ha hb) ?_
  rintro D σ H ⟨ι, ρ, hq, er, hr, f⟩
  refine ⟨ι, ρ, hq, er, hr, ?_⟩
  rcases Out.of_inv f with ⟨b, h1, e1, f1⟩ | ⟨x, h1, e1, f1⟩
  · rw [e1]
    intro ι1 H1 x1 r1
    cases b with
    | true => exact ⟨ι1, ρ, h1, er.ext x1, r1, f1.ext x1⟩
    | false => exact ⟨ι1, ρ, h1, er.ext x1, r1, f1.ext x1⟩
  · rw [e1]
    exact fun ι1 H1 cls dd x1 r1 q1 => f1 ι1 H1 σ cls dd x1 r1 (er.ext x1) q1
theorem y_brk {w : Nat} {pos : Pos} : PS X (.Break pos) (tS G W cl w .brk) :=
  PS.of ps_break fun D σ H ⟨ι, ρ, hq, er, hr, f⟩ => f ι H σ .refl hr er
theorem y_cnt {w : Nat} {pos : Pos} : PS X (.Continue pos) (tS G W cl w .cnt) :=
  PS.of ps_continue fun D σ H ⟨ι, ρ, hq, er, hr, f⟩ => f ι H σ .refl hr er
theorem y_pas {w : Nat} {pos : Pos} : PS X (.Pass pos) (tS G W cl w .pas) :=
  PS.of ps_pass fun D σ H ⟨ι, ρ, hq, er, hr, f⟩ => f ι H σ .refl hr er
theorem y_doc {w : Nat} {x j pos pos'} : PS X (.Expr (.Constant (.str x) j pos) pos') (tS G W cl w .pas) :=
  PS.of ps_doc fun D σ H ⟨ι, ρ, hq, er, hr, f⟩ => f ι H σ .refl hr er
theorem y_nil {w : Nat} : PSs X [] (tSs G W cl w .nil) :=
  ⟨fun pins s σ H D I ⟨ι, ρ, hq, er, hr, f⟩ => pss_nil.run pins s σ H D I (f ι H σ .refl hr er)⟩
theorem y_cons {s : Stmt} {ss : List Stmt} {i : S} {is : Ss} {w : Nat} (h1 : PS X s (tS G W cl w i)) (h2 : PSs X ss (tSs G W cl w is)) : PSs X (s :: ss) (tSs G W cl w (.cons i is)) := by
  refine ⟨fun pins z σ H D I q => (pss_cons h1 h2).run pins z σ H D I ?_⟩
  obtain ⟨ι, ρ, hq, er, hr, f⟩ := q
  refine ⟨ι, ρ, hq, er, hr, ?_⟩
  have f : FinO G W ι H (match evS cl w i ρ hq with
    | .nx ρ1 h1 => evSs cl w is ρ1 h1
    | o => o) D := f
  cases e : evS cl w i ρ hq with
  | nx ρ1 h1 =>
    rw [e] at f
    exact fun ι1 H1 σ1 x1 r1 er1 => ⟨ι1, ρ1, h1, er1, r1, f.ext x1⟩
  | rt d ρ1 h1 => rw [e] at f; exact f
  | bk ρ1 h1 => rw [e] at f; exact f
  | ct ρ1 h1 => rw [e] at f; exact f
  | xc x ρ1 h1 => rw [e] at f; exact f
  | er => rw [e] at f; exact f
end Rx

/-! RxI: what a def promises, calls, freezing. -/
namespace Rx
open PySem L2
open PyProof.Rows (envOfC)
variable {G : Gx} {W : WX} {cl : Cl} {k : Nat} {N : List Str} {sc : Scope} {st st' : List Str} {X : Cx}
variable {ι ι' : List Addr} {H H' : Hp} {h h' : Hq} {ρ : Ev} {σ σ' : MSt} {v : V} {d : D} {a : Addr}

/-- a def's promise, where no guard stands -/
structure FnG (G : Gx) (k : Nat) (f : Addr) (fd : FuncData) (ps : List Str) (sp : Sp) : Prop where
  len : ∀ vs H Q E, sp vs H Q E → vs.length = ps.length
  run : ∀ (A : Around) (outer : List Env) (s : Shared) (H : Hp) (args : Args) (us : List Value) (vs : List V) (Q : VK) (E : XK), Room (k + 2) A → A.guards = some [] →
    Env0 G.P G.w G.K G.mg G.base A outer s H → BindsTo s fd args (ps.zip us) → Vals vs us → sp vs H Q E → codeAny (model G.P G.w) A (.call (.ref f) args) (CR (CX G.P G.w) outer G.P G.w H s Q E) s
/-- a body gives the promise -/
theorem FnG.by_body {f : Addr} {name qual : Str} {params : Arguments} {body : List Stmt} {scope : Scope} {dV kV doc pm cdv ct oc : Value} {an od : Option Addr} {osl : Array (Option Value)} {ps : List Str} {sp : Sp}
    (lk : G.K.lookup f = some ⟨oc, od, .func (PySem.W.fnOf name qual params body scope dV kV doc pm an cdv ct), osl⟩) (cd : PySem.W.codeIn G.K cdv qual = true) (S : FnScope N ps scope) (len : ∀ vs H Q E, sp vs H Q E → vs.length = ps.length)
    (go : ∀ (A : Around) (outer : List Env) (s : Shared) (H : Hp) (vs : List V) (Q : VK) (E : XK), Room (k + 2) (A.deeper (envOfC qual scope s.heap.objs.size f cdv)) → A.guards = some [] → sp vs H Q E →
      ∃ t, PSs (cxOf (CX G.P G.w) G.P G.w G.K G.mg G.base N qual scope f cdv A outer s H E) body t ∧ t { nx := fun _ H' => Q .non H', rt := Q } (start N vs) H) :
    FnG G (k + 1) f (PySem.W.fnOf name qual params body scope dV kV doc pm an cdv ct) ps sp := by
  constructor
  · exact len
  intro A outer s H args us vs Q E room gs z hb rv hsp
  have inK : G.K.In s.heap := z.mod.kin.keeps fun b o e => (z.bs b o e).1
  have kinds : ∀ y ∈ ps.zip us, scope.names.lookup y.1 = some .local ∨ (scope.names.lookup y.1 = some .cell ∧ ((cellsFrom (s.heap.objs.size + 1) scope.names []).lookup y.1).isSome = true) := by
    rintro ⟨n, u⟩ m
    exact (S.par n (List.of_mem_zip m).1).imp id fun q => ⟨q, PySem.W.cellsFrom_some _ _ _ (.inl q)⟩
  apply codeAny_call_function room.depth (inK _ _ lk) rfl S.co S.gen rfl (PySem.W.codeRec_of inK cd)
  apply hb
  apply wpAny_newFunctionEnv_cells S.kind kinds
  rintro env rfl s1 x
  refine ⟨(z.mod.nolimit.keeps fun b o e => (z.bs b o e).1).keeps x.toInCall.keep, codeAny_func ?_⟩
  obtain ⟨t, ht, hq⟩ := go A outer s H vs Q E (room.deeper _) gs hsp
  have J := inv_start (CX := CX G.P G.w) (E := E) S room.hd z (len _ _ _ _ hsp) rv x
  refine wpAny_mono (ht.run [] s1 _ H _ J hq) ?_ fun _ _ y => y
  intro fl s' out
  have done : ∀ {σ2 : MSt} {H2 : Hp} {y : V} {u : Value}, Inv (cxOf (CX G.P G.w) G.P G.w G.K G.mg G.base N qual scope f cdv A outer s H E) [] σ2 H2 s' → RelV y u → Q y H2 → CE outer G.P G.w H s Q u s' :=
    fun J r q => ⟨_, _, J.os, J.bare, J.base, J.hok, r, q⟩
  cases fl with
  | ret u => obtain ⟨y, σ2, H2, J2, r, q⟩ := out; exact done J2 r q
  | next => obtain ⟨σ2, H2, J2, q⟩ := out; exact done (y := .non) (u := .none) J2 rfl q
  | brk => obtain ⟨_, _, _, q⟩ := out; exact q.elim
  | cont => obtain ⟨_, _, _, q⟩ := out; exact q.elim
/-- what the evaluator's function of that name promises -/
def spF (G : Gx) (cl : Cl) (name : Str) (n : Nat) : Sp := fun vs H Q E => vs.length = n ∧ ∃ rs ι ds h, HR { G with rs := rs } ι h H ∧ VRs { G with rs := rs } ι H vs ds ∧ FinV { G with rs := rs } (fun cls dd _ H => E cls dd H) ι H [] (cl name ds h) Q
/-- a name's def -/
structure FnAt (G : Gx) (cl : Cl) (k : Nat) (name : Str) (n : Nat) (f : Addr) (fd : FuncData) (ps : List Str) : Prop where
  mg : G.mg name = some (.ref f)
  kp : PySem.W.keepIn G.K (.ref f) = true
  bd : Binds G.K fd ps []
  fn : FnG G k f fd ps (spF G cl name n)
  nd : (name == ("__debug__" : Str)) = false
theorem run_g {f : Addr} {fd : FuncData} {ps : List Str} {name : Str} {n : Nat} {pins : List (Addr × Obj)} {s : Shared} {Q : VK} {us : List Value} {vs : List V} (g : Gd G W k N sc st X) (F : FnAt G cl k name n f fd ps) (I : Inv X pins σ H s) (r : Vals vs us) (hn : vs.length = n)
    (q : ∃ rs ι ds h, HR { G with rs := rs } ι h H ∧ VRs { G with rs := rs } ι H vs ds ∧ FinV { G with rs := rs } W ι H σ (cl name ds h) Q) : wpAny (model X.prog X.w) X.A (call (.ref f) us) (EP X pins σ Q) X.xe s := by
  have sp : spF G cl name n vs H Q fun cls dd H2 => W cls dd σ H2 := by
    obtain ⟨rs, ι, ds, h, hr, vr, f⟩ := q
    refine ⟨hn, rs, ι, ds, h, hr, vr, ?_⟩
    cases e : cl name ds h with
    | ok d h1 => rw [e] at f; exact f
    | xc x h1 => rw [e] at f; exact f
    | er => rw [e] at f; exact f
  have hl := F.fn.len _ _ _ _ sp
  have env := I.env0
  rw [g.hP, g.hw, g.hK, g.hm, g.hb] at env
  have kin := I.kIn
  rw [g.hK] at kin
  have bind := F.bd s us kin (by rw [List.append_nil, ← r.length]; exact hl)
  rw [List.append_nil] at bind
  apply wpAny_call
  refine codeAny_mono (R := CR (CX G.P G.w) X.stack G.P G.w H s Q fun cls dd H2 => W cls dd σ H2) ?_ ?_
  · rw [g.hP, g.hw]
    exact F.fn.run X.A X.stack s H ⟨us, []⟩ us vs Q _ g.rm.rm g.rm.gd env bind r sp
  · intro res s' out
    cases res with
    | error e =>
      refine g.tk e s' (XE.of_call I (E := fun cls dd H2 => W cls dd σ H2) (fun _ _ _ z => z) ?_)
      rw [g.hP, g.hw]; exact out
    | ok fl =>
      cases fl with
      | ret u =>
        refine I.after ?_
        rw [g.hP, g.hw]; exact out
      | next => exact out.elim
      | brk => exact out.elim
      | cont => exact out.elim
section
variable {f : Addr} {fd : FuncData} {ps : List Str} {name : Str} {n : Nat} {p pos : Pos}
theorem pe_cl {e : Expr} {es : List Expr} {t : TA} (g : Gd G W k N sc st X) (F : FnAt G cl k name n f fd ps) (hg : Gl X name) (ha : PA X (e :: es) t) (pl : plainE e = true) (ps' : es.all plainE = true)
    {t' : TE} (hn : ∀ σ H Q, t' σ H Q → t σ H fun vs H1 => vs.length = n ∧ ∃ rs ι ds h, HR { G with rs := rs } ι h H1 ∧ VRs { G with rs := rs } ι H1 vs ds ∧ FinV { G with rs := rs } W ι H1 σ (cl name ds h) Q) :
    PE X (.Call (.Name name p) (e :: es) [] pos) t' := by
  constructor
  intro pins s σ H Q I q
  refine wpAny_Call_Name_kw (ld_glob I hg (by rw [g.hm]; exact F.mg) ?_ F.nd)
  have kp := F.kp
  rw [← g.hK] at kp
  refine PySem.W.callWith_K (h₀ := X.base) I.ok.mod.kin kp (thn (ha.run pos pins s σ H _ I (hn σ H Q q)) ?_) (star_cons pl) (star_none ps')
  rintro us s1 ⟨vs, H1, I1, r, e1, q1⟩
  exact ⟨I1.kIn, run_g g F I1 r e1 q1⟩
theorem pe_cl0 {t' : TE} (g : Gd G W k N sc st X) (F : FnAt G cl k name 0 f fd ps) (hg : Gl X name)
    (hn : ∀ σ H Q, t' σ H Q → ∃ rs ι h, HR { G with rs := rs } ι h H ∧ FinV { G with rs := rs } W ι H σ (cl name [] h) Q) : PE X (.Call (.Name name p) [] [] pos) t' := by
  constructor
  intro pins s σ H Q I q
  obtain ⟨rs, ι, h, hr, q⟩ := hn σ H Q q
  refine wpAny_Call_Name_kw (ld_glob I hg (by rw [g.hm]; exact F.mg) ?_ F.nd)
  have kp := F.kp
  rw [← g.hK] at kp
  exact PySem.W.callWith_K0 I.kIn kp (run_g (us := []) g F I .nil rfl ⟨rs, ι, [], h, hr, .nil, q⟩)
end

/-! ### freezing -/
theorem mapM_cons_inv {α β : Type} {f : α → Option β} {x : α} {xs : List α} {ys : List β} (e : (x :: xs).mapM f = some ys) : ∃ y ys', f x = some y ∧ xs.mapM f = some ys' ∧ ys = y :: ys' := by
  rw [List.mapM_cons] at e
  cases e1 : f x with
  | none => rw [e1] at e; cases e
  | some y =>
    rw [e1] at e
    cases e2 : xs.mapM f with
    | none => rw [e2] at e; cases e
    | some ys' =>
      rw [e2] at e
      cases e
      exact ⟨y, ys', rfl, rfl, rfl⟩
theorem map_inv {α β : Type} {o : Option α} {f : α → β} {y : β} (e : o.map f = some y) : ∃ x, o = some x ∧ y = f x := by
  cases o with
  | none => cases e
  | some x => cases e; exact ⟨x, rfl, rfl⟩
variable {n : Nat}
theorem frz_key : ∀ (k m : Nat) (d d' : D), keyOk m d = true → frz n h k d = some d' → d' = d
  | k, m, .non, d', _, e => by unfold frz at e; cases e; rfl
  | k, m, .bl b, d', _, e => by unfold frz at e; cases e; rfl
  | k, m, .int i, d', _, e => by unfold frz at e; cases e; rfl
  | k, m, .str x, d', _, e => by unfold frz at e; cases e; rfl
  | 0, m, .tup xs, d', _, e => by unfold frz at e; cases e
  | k + 1, 0, .tup xs, d', p, e => by simp [keyOk] at p
  | k + 1, m + 1, .tup xs, d', p, e => by
    have e : (xs.mapM (frz n h k)).map D.tup = some d' := e
    obtain ⟨ys, e1, rfl⟩ := map_inv e
    have p : ∀ x ∈ xs, keyOk m x = true := by simpa [keyOk] using p
    have key : ∀ (xs ys : List D), (∀ x ∈ xs, keyOk m x = true) → xs.mapM (frz n h k) = some ys → ys = xs := by
      intro xs
      induction xs with
      | nil => intro ys _ e; cases e; rfl
      | cons x xs ih =>
        intro ys p e
        obtain ⟨y, ys', e1, e2, rfl⟩ := mapM_cons_inv e
        rw [frz_key k m x y (p x (by simp)) e1, ih ys' (fun z hz => p z (by simp [hz])) e2]
    rw [key xs ys p e1]
  | k, 0, .lst _, _, p, _ => by simp [keyOk] at p
  | k, m + 1, .lst _, _, p, _ => by simp [keyOk] at p
  | k, 0, .dct _ _, _, p, _ => by simp [keyOk] at p
  | k, m + 1, .dct _ _, _, p, _ => by simp [keyOk] at p
  | k, 0, .ref _, _, p, _ => by simp [keyOk] at p
  | k, m + 1, .ref _, _, p, _ => by simp [keyOk] at p
  | k, 0, .clo _ _, _, p, _ => by simp [keyOk] at p
  | k, m + 1, .clo _ _, _, p, _ => by simp [keyOk] at p
  | k, 0, .slst _, _, p, _ => by simp [keyOk] at p
  | k, m + 1, .slst _, _, p, _ => by simp [keyOk] at p
  | k, 0, .hole, _, p, _ => by simp [keyOk] at p
  | k, m + 1, .hole, _, p, _ => by simp [keyOk] at p
theorem frz_keys {k m : Nat} : ∀ {xs ys : List D}, (∀ x ∈ xs, keyOk m x = true) → xs.mapM (frz n h k) = some ys → ys = xs
  | [], _, _, e => by cases e; rfl
  | x :: xs, _, p, e => by
    obtain ⟨y, ys', e1, e2, rfl⟩ := mapM_cons_inv e
    rw [frz_key k m x y (p x (by simp)) e1, frz_keys (fun z hz => p z (by simp [hz])) e2]
theorem notake (nd : ι.Nodup) {i : Nat} (hi : ι[i]? = some a) (hn : ¬ i < n) : a ∉ ι.take n := fun m => by
  obtain ⟨j, hj, e⟩ := List.mem_iff_getElem.mp m
  rw [List.length_take] at hj
  rw [List.getElem_take] at e
  have h1 := List.getElem?_eq_some_iff.mp hi
  have := (List.getElem_inj nd).mp (h1.2.trans e.symm)
  omega
theorem frzs_of {k : Nat} (ih : ∀ {v : V} {d d' : D}, VR G ι H v d → frz n h k d = some d' → VR G (ι.take n) H v d') : ∀ {vs : List V} {ds ds' : List D}, VRs G ι H vs ds → ds.mapM (frz n h k) = some ds' → VRs G (ι.take n) H vs ds'
  | _, _, _, .nil, e => by cases e; exact .nil
  | _, _, _, .cons q qs, e => by
    obtain ⟨y, ys', e1, e2, rfl⟩ := mapM_cons_inv e
    exact .cons (ih q e1) (frzs_of ih qs e2)
theorem dct_inv {ks vs : List D} {k : Nat} {d' : D} (e : (match ks.mapM (frz n h k), vs.mapM (frz n h k) with
      | some a, some b => some (D.dct a b)
      | _, _ => none) = some d') : ∃ a b, ks.mapM (frz n h k) = some a ∧ vs.mapM (frz n h k) = some b ∧ d' = .dct a b := by
  cases e1 : ks.mapM (frz n h k) with
  | none => rw [e1] at e; cases e
  | some a =>
    cases e2 : vs.mapM (frz n h k) with
    | none => rw [e1, e2] at e; cases e
    | some b => rw [e1, e2] at e; cases e; exact ⟨a, b, rfl, rfl, rfl⟩
theorem keys_flat : ∀ {l : List (Key × V)} {ks : List D}, VRs G ι H (l.map fun p => kV p.1) ks → ∀ x ∈ ks, keyOk 8 x = true
  | [], _, .nil => fun x m => nomatch m
  | (k, v) :: l, _, .cons q qs => fun x m => by
    rcases List.mem_cons.mp m with rfl | m
    · cases k with
      | inl i =>
        have q : VR G ι H (.int i) x := q
        cases q; rfl
      | inr s =>
        have q : VR G ι H (.str s) x := q
        cases q; rfl
    · exact keys_flat (l := l) qs x m
theorem DO.keys {o : HO} {kvs vvs : List V} {ks : List D} (z : DO G a o kvs vvs ks) (r : VRs G ι H kvs ks) : ∀ x ∈ ks, keyOk 8 x = true := by
  cases z with
  | flat l => exact keys_flat r
  | nest xs _ _ _ q => rw [List.all_eq_true] at q; exact q
theorem frz_ok (r : HR G ι h H) : ∀ (k : Nat) {v : V} {d d' : D}, VR G ι H v d → frz n h k d = some d' → VR G (ι.take n) H v d'
  | k, _, .non, d', q, e => by cases q; unfold frz at e; cases e; exact .non
  | k, _, .bl b, d', q, e => by cases q; unfold frz at e; cases e; exact .bl b
  | k, _, .int i, d', q, e => by cases q; unfold frz at e; cases e; exact .int i
  | k, _, .str x, d', q, e => by cases q; unfold frz at e; cases e; exact .str x
  | 0, _, .tup xs, d', q, e => by unfold frz at e; cases e
  | 0, _, .lst xs, d', q, e => by unfold frz at e; cases e
  | 0, _, .slst xs, d', q, e => by unfold frz at e; cases e
  | 0, _, .dct _ _, d', q, e => by unfold frz at e; cases e
  | 0, _, .ref _, d', q, e => by unfold frz at e; cases e
  | k, _, .clo _ _, d', q, e => by cases q
  | k, _, .hole, d', q, e => by cases q
  | k + 1, _, .tup xs, d', q, e => by
    have e : (xs.mapM (frz n h k)).map D.tup = some d' := e
    obtain ⟨ys, e1, rfl⟩ := map_inv e
    cases q with
    | tup t w =>
      refine .tup ?_ (frzs_of (frz_ok r k) w e1)
      rcases t with ⟨t1, t2⟩ | t
      · exact .inl ⟨fun m => t1 (List.mem_of_mem_take m), t2⟩
      · exact .inr t
  | k + 1, _, .lst xs, d', q, e => by
    have e : (xs.mapM (frz n h k)).map D.lst = some d' := e
    obtain ⟨ys, e1, rfl⟩ := map_inv e
    cases q with
    | lst t u w => exact .lst ⟨fun m => t.1 (List.mem_of_mem_take m), t.2⟩ u (frzs_of (frz_ok r k) w e1)
  | k + 1, _, .slst xs, d', q, e => by
    have e : (xs.mapM (frz n h k)).map D.slst = some d' := e
    obtain ⟨ys, e1, rfl⟩ := map_inv e
    cases q with
    | slst t w =>
      refine .slst ?_ (frzs_of (frz_ok r k) w e1)
      rcases t with ⟨t1, t2⟩ | t
      · exact .inl ⟨fun m => t1 (List.mem_of_mem_take m), t2⟩
      · exact .inr t
  | k + 1, _, .dct ks vs, d', q, e => by
    obtain ⟨ks', vs', e1, e2, rfl⟩ := dct_inv e
    cases q with
    | dct t u z r1 r2 =>
      have ek := frz_keys (m := 8) (DO.keys z r1) e1
      subst ek
      exact .dct ⟨fun m => t.1 (List.mem_of_mem_take m), t.2⟩ u z (frzs_of (frz_ok r k) r1 e1) (frzs_of (frz_ok r k) r2 e2)
  | k + 1, _, .ref i, d', q, e => by
    have e : (if i < n then some (D.ref i) else match h[i]? with
      | some (.lst xs) => (xs.mapM (frz n h k)).map .lst
      | some (.dct ks vs) => match ks.mapM (frz n h k), vs.mapM (frz n h k) with
        | some a, some b => some (.dct a b)
        | _, _ => none
      | _ => none) = some d' := e
    cases q with
    | ref hi =>
      rename_i a
      split at e
      · rename_i hin
        cases e
        exact .ref (by rw [List.getElem?_take_of_lt hin]; exact hi)
      · rename_i hin
        have hma := List.mem_of_getElem? hi
        have hrs : a ∉ G.rs := fun m => (r.rsv a m).1 hma
        split at e
        · rename_i xs ex
          obtain ⟨ys, e1, rfl⟩ := map_inv e
          cases r.at_ i _ a ex hi with
          | lst q1 q2 => exact .lst ⟨notake r.nd hi hin, hrs⟩ q1 (frzs_of (frz_ok r k) q2 e1)
        · rename_i ks vs ex
          obtain ⟨ks', vs', e1, e2, rfl⟩ := dct_inv e
          cases r.at_ i _ a ex hi with
          | dct u z r1 r2 =>
            have ek := frz_keys (m := 8) (DO.keys z r1) e1
            subst ek
            exact .dct ⟨notake r.nd hi hin, hrs⟩ u z (frzs_of (frz_ok r k) r1 e1) (frzs_of (frz_ok r k) r2 e2)
        · cases e
theorem frzs_ok (r : HR G ι h H) {k : Nat} {vs : List V} {ds ds' : List D} (q : VRs G ι H vs ds) (e : ds.mapM (frz n h k) = some ds') : VRs G (ι.take n) H vs ds' := frzs_of (frz_ok r k) q e
end Rx

/-! RxJ: the three kinds of calls. -/
namespace Rx
open PySem L2
variable {G : Gx} {W : WX} {cl : Cl} {k : Nat} {N : List Str} {sc : Scope} {st st' : List Str} {X : Cx}
variable {ι ι' : List Addr} {H H' : Hp} {h h' : Hq} {ρ : Ev} {σ σ' : MSt} {v : V} {d : D} {a : Addr} {n : Nat}

/-! ### nothing that changes within -/
mutual
theorem frz_fz : ∀ (k : Nat) (d d' : D), fz d = true → frz n h k d = some d' → d' = d
  | k, .non, d', _, e => by unfold frz at e; cases e; rfl
  | k, .bl b, d', _, e => by unfold frz at e; cases e; rfl
  | k, .int i, d', _, e => by unfold frz at e; cases e; rfl
  | k, .str x, d', _, e => by unfold frz at e; cases e; rfl
  | 0, .tup xs, d', _, e => by unfold frz at e; cases e
  | 0, .lst xs, d', _, e => by unfold frz at e; cases e
  | 0, .slst xs, d', _, e => by unfold frz at e; cases e
  | 0, .dct _ _, d', _, e => by unfold frz at e; cases e
  | 0, .clo _ _, d', _, e => by unfold frz at e; cases e
  | k, .hole, d', p, e => by simp [fz] at p
  | k, .ref _, d', p, e => by simp [fz] at p
  | k + 1, .tup xs, d', p, e => by
    have e : (xs.mapM (frz n h k)).map D.tup = some d' := e
    obtain ⟨ys, e1, rfl⟩ := map_inv e
    rw [frzs_fz k xs ys (by simpa [fz] using p) e1]
  | k + 1, .lst xs, d', p, e => by
    have e : (xs.mapM (frz n h k)).map D.lst = some d' := e
    obtain ⟨ys, e1, rfl⟩ := map_inv e
    rw [frzs_fz k xs ys (by simpa [fz] using p) e1]
  | k + 1, .slst xs, d', p, e => by
    have e : (xs.mapM (frz n h k)).map D.slst = some d' := e
    obtain ⟨ys, e1, rfl⟩ := map_inv e
    rw [frzs_fz k xs ys (by simpa [fz] using p) e1]
  | k + 1, .clo j xs, d', p, e => by
    have e : (xs.mapM (frz n h k)).map (D.clo j) = some d' := e
    obtain ⟨ys, e1, rfl⟩ := map_inv e
    rw [frzs_fz k xs ys (by simpa [fz] using p) e1]
  | k + 1, .dct ks vs, d', p, e => by
    obtain ⟨ks', vs', e1, e2, rfl⟩ := dct_inv e
    have p : fzs ks = true ∧ fzs vs = true := by simpa [fz] using p
    rw [frzs_fz k ks ks' p.1 e1, frzs_fz k vs vs' p.2 e2]
theorem frzs_fz : ∀ (k : Nat) (ds ds' : List D), fzs ds = true → ds.mapM (frz n h k) = some ds' → ds' = ds
  | k, [], _, _, e => by cases e; rfl
  | k, d :: ds, _, p, e => by
    obtain ⟨y, ys', e1, e2, rfl⟩ := mapM_cons_inv e
    have p : fz d = true ∧ fzs ds = true := by simpa [fzs] using p
    rw [frz_fz k d y p.1 e1, frzs_fz k ds ys' p.2 e2]
end
theorem fz_dct {ks vs : List D} (p : fz (.dct ks vs) = true) : fzs ks = true ∧ fzs vs = true := by simpa [fz] using p
theorem fzs_cons {d : D} {ds : List D} (p : fzs (d :: ds) = true) : fz d = true ∧ fzs ds = true := by simpa [fzs] using p
theorem nols_cons {d : D} {ds : List D} (p : nols (d :: ds) = true) : nol d = true ∧ nols ds = true := by simpa [nols] using p
/-- all places are reserved -/
abbrev Gx.sh (G : Gx) (ι : List Addr) : Gx := { G with rs := ι ++ G.rs }
theorem napp {l : List Addr} (h1 : a ∉ ι) (h2 : a ∉ l) : a ∉ ι ++ l := fun m => (List.mem_append.mp m).elim h1 h2
mutual
theorem VR.shut : ∀ {v : V} {d : D}, fz d = true → VR G ι H v d → VR (G.sh ι) [] H v d
  | _, _, _, .non => .non
  | _, _, _, .bl b => .bl b
  | _, _, _, .int i => .int i
  | _, _, _, .str x => .str x
  | _, _, p, .tup q r => .tup (q.elim (fun z => .inl ⟨List.not_mem_nil, z.2⟩) .inr) (VRs.shut (by simpa [fz] using p) r)
  | _, _, p, .lst n q r => .lst ⟨List.not_mem_nil, napp n.1 n.2⟩ q (VRs.shut (by simpa [fz] using p) r)
  | _, _, p, .slst q r => .slst (q.elim (fun z => .inl ⟨List.not_mem_nil, z.2⟩) .inr) (VRs.shut (by simpa [fz] using p) r)
  | _, _, p, .dct n q z r1 r2 => .dct ⟨List.not_mem_nil, napp n.1 n.2⟩ q z (VRs.shut (fz_dct p).1 r1) (VRs.shut (fz_dct p).2 r2)
  | _, _, p, .ref q => by simp [fz] at p
theorem VRs.shut : ∀ {vs : List V} {ds : List D}, fzs ds = true → VRs G ι H vs ds → VRs (G.sh ι) [] H vs ds
  | _, _, _, .nil => .nil
  | _, _, p, .cons r t => .cons (VR.shut (fzs_cons p).1 r) (VRs.shut (fzs_cons p).2 t)
end
theorem OR.notTup {o : Ob} {vs : List V} (r : OR G ι H a o) : ¬ Rd H a (.tup vs) := fun q => by
  cases r with
  | lst z => rcases q with q | ⟨w, q⟩ <;> (rw [z] at q; cases q)
  | dct z zo =>
    rcases q with q | ⟨w, q⟩
    · rw [z] at q; cases q; exact zo.notTup.1 _ rfl
    · rw [z] at q; cases q; exact zo.notTup.2.1 _ _ rfl
  | ins _ z => rcases q with q | ⟨w, q⟩ <;> (rw [z] at q; cases q)
theorem HR.notTup (r : HR G ι h H) {vs : List V} (q : Rd H a (.tup vs)) : a ∉ ι := fun m => by
  obtain ⟨i, hi, e⟩ := List.mem_iff_getElem.mp m
  obtain ⟨o, -, ho⟩ := r.place (i := i) (a := a) (by rw [← e]; simp [hi])
  exact ho.notTup q
theorem HR.notFrz (r : HR G ι h H) {o : Obj} {u : HO} (q : H a = some (.frz o u)) : a ∉ ι := fun m => by
  obtain ⟨i, hi, e⟩ := List.mem_iff_getElem.mp m
  obtain ⟨o, -, ho⟩ := r.place (i := i) (a := a) (by rw [← e]; simp [hi])
  cases ho with
  | lst z => rw [z] at q; cases q
  | dct z zo => rw [z] at q; cases q; exact zo.notTup.2.1 _ _ rfl
  | ins _ z => rw [z] at q; cases q
mutual
theorem VR.opn (R : HR G ι h H) : ∀ {v : V} {d : D}, VR (G.sh ι) [] H v d → VR G ι H v d
  | _, _, .non => .non
  | _, _, .bl b => .bl b
  | _, _, .int i => .int i
  | _, _, .str x => .str x
  | _, _, .tup q r => .tup (q.elim (fun z => .inl ⟨R.notTup z.2, z.2⟩) .inr) (VRs.opn R r)
  | _, _, .lst n q r => .lst ⟨fun m => n.2 (List.mem_append_left _ m), fun m => n.2 (List.mem_append_right _ m)⟩ q (VRs.opn R r)
  | _, _, .slst q r => .slst (q.elim (fun ⟨_, o, z⟩ => .inl ⟨R.notFrz z, o, z⟩) .inr) (VRs.opn R r)
  | _, _, .dct n q z r1 r2 => .dct ⟨fun m => n.2 (List.mem_append_left _ m), fun m => n.2 (List.mem_append_right _ m)⟩ q z (VRs.opn R r1) (VRs.opn R r2)
  | _, _, .ref q => by simp at q
theorem VRs.opn (R : HR G ι h H) : ∀ {vs : List V} {ds : List D}, VRs (G.sh ι) [] H vs ds → VRs G ι H vs ds
  | _, _, .nil => .nil
  | _, _, .cons r t => .cons (VR.opn R r) (VRs.opn R t)
end
mutual
theorem VR.opn' (R : HR G ι h H) : ∀ {v : V} {d : D}, nol d = true → VR G [] H v d → VR G ι H v d
  | _, _, _, .non => .non
  | _, _, _, .bl b => .bl b
  | _, _, _, .int i => .int i
  | _, _, _, .str x => .str x
  | _, _, p, .tup q r => .tup (q.elim (fun z => .inl ⟨R.notTup z.2, z.2⟩) .inr) (VRs.opn' R (by simpa [nol] using p) r)
  | _, _, p, .lst n q r => by simp [nol] at p
  | _, _, p, .slst q r => by simp [nol] at p
  | _, _, p, .dct n q z r1 r2 => by simp [nol] at p
  | _, _, _, .ref q => by simp at q
theorem VRs.opn' (R : HR G ι h H) : ∀ {vs : List V} {ds : List D}, nols ds = true → VRs G [] H vs ds → VRs G ι H vs ds
  | _, _, _, .nil => .nil
  | _, _, p, .cons r t => .cons (VR.opn' R (nols_cons p).1 r) (VRs.opn' R (nols_cons p).2 t)
end
/-- all objects stay -/
theorem Ext.all (hk : ∀ a o, H a = some o → H' a = some o) : Ext ι H ι H' := ⟨⟨[], by simp⟩, fun _ m => .inl m, fun a o e _ => hk a o e⟩
theorem HR.stay (R : HR G ι h H) (hk : ∀ a o, H a = some o → H' a = some o) : HR G ι h H' := ⟨R.len, R.nd, fun i o a h1 h2 => by
  have r := R.at_ i o a h1 h2
  obtain ⟨u, e⟩ := r.some
  exact r.ext (Ext.all hk) (by rw [hk a u e, e]), fun a m => ⟨(R.rsv a m).1, by
  obtain ⟨-, u, e⟩ := R.rsv a m
  exact ⟨u, hk a u e⟩⟩⟩
theorem OR.notXd {o : Ob} {fvs} (r : OR G ι H a o) : H a ≠ Option.some (.xd fvs) := fun q => by
  cases r with
  | lst z => rw [z] at q; cases q
  | dct z zo => rw [z] at q; cases q; exact zo.notTup.2.2.1 _ rfl
  | ins _ z => rw [z] at q; cases q
theorem HR.notXd (R : HR G ι h H) {fvs} (q : H a = some (.xd fvs)) : a ∉ ι := fun m => by
  obtain ⟨i, hi, e⟩ := List.mem_iff_getElem.mp m
  obtain ⟨o, -, ho⟩ := R.place (i := i) (a := a) (by rw [← e]; simp [hi])
  exact ho.notXd q
theorem HR.nil {rs : List Addr} (hrs : ∀ a ∈ rs, ∃ u, H a = some u) : HR { G with rs := rs } [] [] H := ⟨rfl, List.nodup_nil, fun i o a e => by simp at e, fun a m => ⟨List.not_mem_nil, hrs a m⟩⟩
theorem HR.has (R : HR G ι h H) : ∀ a ∈ ι ++ G.rs, ∃ u, H a = some u := fun a m => by
  rcases List.mem_append.mp m with m | m
  · exact R.mem m
  · exact (R.rsv a m).2
theorem Ext.keepNil {ι2 : List Addr} (x : Ext [] H ι2 H') : ∀ a o, H a = some o → H' a = some o := fun a o e => x.keep a o e List.not_mem_nil
/-- the promise asked of a call of each kind -/
def Asks (G : Gx) (W : WX) (cl : Cl) (name : Str) (σ : MSt) (vs : List V) (H : Hp) (Q : VK) : Prop :=
  ∃ rs ι ds h, HR { G with rs := rs } ι h H ∧ VRs { G with rs := rs } ι H vs ds ∧ FinV { G with rs := rs } W ι H σ (cl name ds h) Q
theorem asks_pu {name : Str} {vs : List V} {ds : List D} {Q : VK} (R : HR G ι h H) (w : VRs G ι H vs ds) (f : FinV G W ι H σ (callPu cl name ds h) Q) : Asks G W cl name σ vs H Q := by
  unfold callPu at f
  cases e : ds.mapM (frz 0 h 60) with
  | none => rw [e] at f; exact f.elim
  | some ds' =>
    rw [e] at f
    dsimp only at f
    by_cases hz : fzs ds = true
    · have : ds' = ds := frzs_fz 60 ds ds' hz e
      subst this
      refine ⟨ι ++ G.rs, [], ds', [], HR.nil R.has, w.shut hz, ?_⟩
      cases er : cl name ds' [] with
      | er => rw [er] at f; exact f.elim
      | ok d h1 =>
        rw [er] at f
        dsimp only at f
        split at f
        · rename_i d' ed
          rw [if_pos (by rw [hz]; rfl)] at f
          intro ι2 H2 v x r2 q2
          have R2 := R.stay x.keepNil
          have := frz_ok (n := 0) r2 60 q2 ed
          exact f ι H2 v (Ext.all x.keepNil) R2 (VR.opn R2 this)
        · exact f.elim
      | xc y h1 =>
        rw [er] at f
        dsimp only at f
        split at f
        · rename_i fs ed
          rw [if_pos (by rw [hz]; rfl)] at f
          intro ι2 H2 cls dd x r2 q2
          have R2 := R.stay x.keepNil
          refine f ι H2 cls dd (Ext.all x.keepNil) R2 ?_
          cases q2 with
          | bare m z => cases ed; exact .bare m z
          | flds m z1 z2 z3 z4 => exact .flds m z1 (R2.notXd z1) z3 (VRs.opn R2 (frzs_ok (n := 0) r2 z4 ed))
        · exact f.elim
    · refine ⟨G.rs, [], ds', [], HR.nil fun a m => (R.rsv a m).2, frzs_ok (n := 0) R w e, ?_⟩
      cases er : cl name ds' [] with
      | er => rw [er] at f; exact f.elim
      | ok d h1 =>
        rw [er] at f
        dsimp only at f
        split at f
        · rename_i d' ed
          split at f
          · rename_i hc
            have hn : nol d' = true := by simpa [hz] using hc
            intro ι2 H2 v x r2 q2
            have R2 := R.stay x.keepNil
            have := frz_ok (n := 0) r2 60 q2 ed
            exact f ι H2 v (Ext.all x.keepNil) R2 (VR.opn' R2 hn this)
          · exact f.elim
        · exact f.elim
      | xc y h1 =>
        rw [er] at f
        dsimp only at f
        split at f
        · rename_i fs ed
          split at f
          · rename_i hc
            have hn : nols fs = true := by simpa [hz] using hc
            intro ι2 H2 cls dd x r2 q2
            have R2 := R.stay x.keepNil
            refine f ι H2 cls dd (Ext.all x.keepNil) R2 ?_
            cases q2 with
            | bare m z => cases ed; exact .bare m z
            | flds m z1 z2 z3 z4 => exact .flds m z1 (R2.notXd z1) z3 (VRs.opn' R2 hn (frzs_ok (n := 0) r2 z4 ed))
          · exact f.elim
        · exact f.elim

theorem asks_ef {name : Str} {vs : List V} {ds : List D} {Q : VK} (R : HR G ι h H) (w : VRs G ι H vs ds) (f : FinV G W ι H σ (cl name ds h) Q) : Asks G W cl name σ vs H Q := ⟨G.rs, ι, ds, h, R, w, f⟩
theorem blw_dct {ks vs : List D} (p : below n (.dct ks vs) = true) : belows n ks = true ∧ belows n vs = true := by simpa [below] using p
theorem blw_ref {i : Nat} (p : below n (.ref i) = true) : i < n := by simpa [below] using p
theorem blw_cons {d : D} {ds : List D} (p : belows n (d :: ds) = true) : below n d = true ∧ belows n ds = true := by simpa [belows] using p
mutual
theorem VR.blw : ∀ {v : V} {d : D}, below n d = true → VR G ι H v d → VR G (ι.take n) H v d
  | _, _, _, .non => .non
  | _, _, _, .bl b => .bl b
  | _, _, _, .int i => .int i
  | _, _, _, .str x => .str x
  | _, _, p, .tup q r => .tup (q.elim (fun z => .inl ⟨fun m => z.1 (List.mem_of_mem_take m), z.2⟩) .inr) (VRs.blw (by simpa [below] using p) r)
  | _, _, p, .lst m q r => .lst ⟨fun z => m.1 (List.mem_of_mem_take z), m.2⟩ q (VRs.blw (by simpa [below] using p) r)
  | _, _, p, .slst q r => .slst (q.elim (fun z => .inl ⟨fun y => z.1 (List.mem_of_mem_take y), z.2⟩) .inr) (VRs.blw (by simpa [below] using p) r)
  | _, _, p, .dct m q z r1 r2 => .dct ⟨fun z => m.1 (List.mem_of_mem_take z), m.2⟩ q z (VRs.blw (blw_dct p).1 r1) (VRs.blw (blw_dct p).2 r2)
  | _, _, p, .ref q => .ref (by rw [List.getElem?_take_of_lt (blw_ref p)]; exact q)
theorem VRs.blw : ∀ {vs : List V} {ds : List D}, belows n ds = true → VRs G ι H vs ds → VRs G (ι.take n) H vs ds
  | _, _, _, .nil => .nil
  | _, _, p, .cons r t => .cons (VR.blw (blw_cons p).1 r) (VRs.blw (blw_cons p).2 t)
end
theorem OR.cut {o : Ob} (p : obBelow n o = true) (r : OR G ι H a o) : OR G (ι.take n) H a o := by
  cases r with
  | lst q r => exact .lst q (r.blw p)
  | dct q z r1 r2 =>
    rw [obBelow, Bool.and_eq_true] at p
    exact .dct q z (r1.blw p.1) (r2.blw p.2)
  | ins m q z r => exact .ins m q z (r.blw p)
theorem HR.cut (R : HR G ι h H) (p : (h.take n).all (obBelow n) = true) (hn : n ≤ h.length) : HR G (ι.take n) (h.take n) H := by
  refine ⟨by rw [List.length_take, List.length_take, R.len], R.nd.sublist (List.take_sublist _ _), fun i o a h1 h2 => ?_, fun a m => ⟨fun z => (R.rsv a m).1 (List.mem_of_mem_take z), (R.rsv a m).2⟩⟩
  have hi : i < n := by
    have := (List.getElem?_eq_some_iff.mp h1).1
    rw [List.length_take] at this
    omega
  have q : obBelow n o = true := by
    rw [List.all_eq_true] at p
    exact p o (List.mem_of_getElem? h1)
  rw [List.getElem?_take_of_lt hi] at h1 h2
  exact (R.at_ i o a h1 h2).cut q
theorem Ext.take (x : Ext ι H ι' H') (hn : n = ι.length) : ι'.take n = ι ∧ Ext ι H ι H' := by
  obtain ⟨t, e⟩ := x.pre
  exact ⟨by rw [e, hn, List.take_left], ⟨[], by simp⟩, fun _ m => .inl m, x.keep⟩
theorem asks_sc {name : Str} {vs : List V} {ds : List D} {Q : VK} (R : HR G ι h H) (w : VRs G ι H vs ds) (f : FinV G W ι H σ (callSc cl name ds h) Q) : Asks G W cl name σ vs H Q := by
  refine ⟨G.rs, ι, ds, h, R, w, ?_⟩
  unfold callSc at f
  cases er : cl name ds h with
  | er => rw [er] at f; exact f.elim
  | ok d h1 =>
    rw [er] at f
    dsimp only at f
    split at f
    · rename_i hb
      split at f
      · rename_i d' ed
        intro ι2 H2 v x r2 q2
        obtain ⟨et, x2⟩ := x.take (n := h.length) R.len.symm
        have hl : h.length ≤ h1.length := by
          rw [← R.len, ← r2.len]
          obtain ⟨t, e⟩ := x.pre
          rw [e, List.length_append]; exact Nat.le_add_right _ _
        have r3 := r2.cut hb hl
        have q3 := frz_ok r2 60 q2 ed
        rw [et] at r3 q3
        exact f ι H2 v x2 r3 q3
      · exact f.elim
    · exact f.elim
  | xc y h1 =>
    rw [er] at f
    dsimp only at f
    split at f
    · rename_i hb
      split at f
      · rename_i fs ed
        intro ι2 H2 cls dd x r2 q2
        obtain ⟨et, x2⟩ := x.take (n := h.length) R.len.symm
        have hl : h.length ≤ h1.length := by
          rw [← R.len, ← r2.len]
          obtain ⟨t, e⟩ := x.pre
          rw [e, List.length_append]; exact Nat.le_add_right _ _
        have r3 := r2.cut hb hl
        rw [et] at r3
        refine f ι H2 cls dd x2 r3 ?_
        cases q2 with
        | bare m z => cases ed; exact .bare m z
        | flds m z1 z2 z3 z4 =>
          have q3 := frzs_ok r2 z4 ed
          rw [et] at q3
          exact .flds m z1 (r3.notXd z1) z3 q3
      · exact f.elim
    · exact f.elim
theorem asks {m : Md} {name : Str} {vs : List V} {ds : List D} {Q : VK} (R : HR G ι h H) (w : VRs G ι H vs ds) (f : FinV G W ι H σ (callD cl m name ds h) Q) : Asks G W cl name σ vs H Q := by
  cases m with
  | pu => exact asks_pu R w f
  | sc => exact asks_sc R w f
  | ef => exact asks_ef R w f
theorem x_call {f : Addr} {fd : FuncData} {ps : List Str} {name : Str} {p pos : Pos} {m : Md} {e : Expr} {es : List Expr} {is : Es} (g : Gd G W k N sc st X) (F : FnAt G cl k name is.len f fd ps) (hg : Gl X name) (ha : PA X (e :: es) (tEs G W cl is)) (pl : plainE e = true) (ps' : es.all plainE = true) :
    PE X (.Call (.Name name p) (e :: es) [] pos) (tE G W cl (.call m name is)) := by
  refine pe_cl g F hg ha pl ps' ?_
  rintro σ H Q ⟨ι, ρ, q, er, rq, f⟩
  refine ⟨ι, ρ, q, er, rq, (FinL.bind f).imp ?_⟩
  rintro vs H1 ⟨ι1, ds1, h1, e1, r1, q1, e2, f1⟩
  exact ⟨by rw [q1.length]; exact evEs_len e2, asks r1 q1 f1⟩
theorem x_call0 {f : Addr} {fd : FuncData} {ps : List Str} {name : Str} {p pos : Pos} {m : Md} (g : Gd G W k N sc st X) (F : FnAt G cl k name 0 f fd ps) (hg : Gl X name) :
    PE X (.Call (.Name name p) [] [] pos) (tE G W cl (.call m name .nil)) := by
  refine pe_cl0 g F hg ?_
  rintro σ H Q ⟨ι, ρ, q, er, rq, f⟩
  obtain ⟨rs, ι2, ds, h2, r2, w2, f2⟩ := asks (m := m) (vs := []) (ds := []) rq .nil f
  cases w2
  exact ⟨rs, ι2, h2, r2, f2⟩
end Rx

/-! RxZ: enumerate of lists and of tuples. -/
namespace Rx
open PySem L2
open PySem.Spec PyProof.Rows
section
variable {prog : Program} {w : World} {A : Around} {E : Value → Shared → Prop} {s : Shared}
set_option maxHeartbeats 1000000 in
theorem meets_enum1 {v : Value} {o : Obj} {H : Heap → Prop} (B : Begins v o H) :
    Meets (Builtin.«enumerate.__new__» ⟨[.type "enumerate", v], []⟩) (fun _ R s => H s.heap ∧ R (.ok (.ret (.ref (s.heap.push o).objs.size))) { s with heap := (s.heap.push o).push { cls := .type "enumerate", data := .fields #[.none, .bool false, .ref s.heap.objs.size, rawInt 0, .none, .none] } }) := by
  refine .of_wp fun prog w A R s ⟨h1, hR⟩ => ?_
  obtain ⟨hp, g, d, tk, os⟩ := s
  have isub := sub_enumerate
  have step : ∀ {A' : Around} {E : Value → Shared → Prop} {Q : Value → Shared → Prop}, Q (.ref hp.objs.size) ⟨hp.push o, g, d, tk, os⟩ → wpAny (model prog w) A' (pyIter v) Q E ⟨hp, g, d, tk, os⟩ := fun q => B.iter prog w _ _ ⟨hp, g, d, tk, os⟩ _ h1 q
  wp_walk using step
  refine wpAny_stack_any fun _ => wpAny_pure ?_
  split
  · rename_i c _ _ _ _ _
    cases (c == Value.type "enumerate") <;> (wp_walk using step; exact ⟨_, rfl, hR⟩)
  · wp_walk using step
    exact ⟨_, rfl, hR⟩
/-- enumerate(v): the iterator of v, the enumerate over it -/
theorem call_enum1 {v : Value} {o : Obj} {H : Heap → Prop} {Q : Value → Shared → Prop} (B : Begins v o H) (h1 : H s.heap)
    (h : ∀ h', IsEnum h' (s.heap.objs.size + 1) s.heap.objs.size 0 .none → h'.get? s.heap.objs.size = some o → h'.objs.size = s.heap.objs.size + 2 → (∀ b q, s.heap.get? b = some q → h'.get? b = some q) → Q (.ref (s.heap.objs.size + 1)) { s with heap := h' }) :
    wpAny (model prog w) A (call (.type "enumerate") [v]) Q E s := by
  refine callType_new F.called_enumerate (by decide) (F.typeCall_enumerate_1 _) (F.newCall_enumerate_1 _) (fun obj => F.args_object_init_2 obj _) F.entry_enumerate_new (meets_enum1 B) ⟨h1, ?_⟩
  have sz : (s.heap.push o).objs.size = s.heap.objs.size + 1 := Heap.size_push ..
  show _ ∧ _
  rw [sz]
  have en : IsEnum ((s.heap.push o).push { cls := .type "enumerate", data := .fields #[.none, .bool false, .ref s.heap.objs.size, rawInt 0, .none, .none] }) (s.heap.objs.size + 1) s.heap.objs.size 0 .none := by
    have q := Heap.get?_push_size (s.heap.push o) (o := { cls := .type "enumerate", data := .fields #[.none, .bool false, .ref s.heap.objs.size, rawInt 0, .none, .none] }) rfl
    rw [sz] at q; exact q
  exact ⟨⟨_, en, rfl⟩, h _ en (Heap.get?_push_of_some _ (Heap.get?_push_size _ B.free)) (by rw [Heap.size_push, sz]) fun b q x => Heap.get?_push_of_some _ (Heap.get?_push_of_some _ x)⟩
end
/-- the tuple at a, of n items, each item in a new pair -/
def Iet (K : PySem.W.Frag) (a : Addr) (n : Nat) : L2.It where
  go := fun i H => ∃ (xs : List V) (x : V), SqT K H a xs ∧ xs.length = n ∧ xs[i]? = some x
  yld := fun i H v H' => ∃ p x, v = .ref p ∧ H p = none ∧ H' = upd H p (.tup [.int (i : Nat), x]) ∧ ∀ xs, SqT K H a xs → xs[i]? = some x
  stop := fun i H => ∃ xs : List V, SqT K H a xs ∧ xs.length = n ∧ n ≤ i
theorem turn_enumT {P : Program} {w : World} {K : PySem.W.Frag} {elts : List Expr} {kk : Nat} {tpos : Pos} (a e it : Addr) (n : Nat) :
    Turn P w K (.Tuple elts kk tpos) (Iet K a n) [e, it] e (fun i h => (∃ old, IsEnum h e it ((i : Nat) : Int) old) ∧ h.IsTupleIter it a i ∧ e ≠ it ∧ i ≤ n) where
  mem := List.mem_cons_self ..
  obj := fun i h ⟨⟨old, he⟩, ⟨o, ho, hc, hd⟩, _⟩ b hb => by
    rcases List.mem_cons.mp hb with rfl | hb
    · exact ⟨_, he, fun v q => nomatch q⟩
    · rw [List.mem_singleton] at hb
      subst hb
      exact ⟨o, ho, fun v q => by rw [hd] at q; cases q⟩
  keep := fun i h h' ⟨⟨old, he⟩, hi, ne⟩ k => ⟨⟨old, k e (List.mem_cons_self ..) _ he⟩, hi.at fun o q => k it (by simp) o q, ne⟩
  item := by
    intro X hP hw hK hc i pins s σ H E I hf ⟨⟨old, he⟩, hit, ne, hin⟩ ⟨xs, x, hq, hn, hx⟩
    subst hP hw hK
    have hi : i < xs.length := (List.getElem?_eq_some_iff.mp hx).1
    obtain ⟨its, rv, p, hz⟩ := I.tuple hq
    obtain ⟨u, hu, ru⟩ := rv.get hx
    have tup : s.heap.IsTuple a its.toArray := p
    have le_ : e < s.heap.objs.size := Heap.lt_size he
    have lit : it < s.heap.objs.size := by obtain ⟨_, q, _⟩ := hit; exact Heap.lt_size q
    have nai : a ≠ it := fun z => by
      subst z
      obtain ⟨o1, q1, c1, d1⟩ := hit
      obtain ⟨o2, q2, c2, _⟩ := p
      rw [q1] at q2; cases q2
      rw [c1] at c2; exact absurd (c2 : (Value.type "tuple_iterator") = .type "tuple") (by decide)
    have nea : e ∉ [it, a] := fun z => by
      rcases List.mem_cons.mp z with z | z
      · exact ne z
      · rw [List.mem_singleton] at z
        subst z
        obtain ⟨o2, q2, c2, _⟩ := p
        have he' : s.heap.get? e = some _ := he
        rw [he'] at q2; cases q2
        exact (show (Value.type "enumerate") ≠ .type "tuple" by decide) c2
    have hd : (X.A.in1).handled = none := I.ok.hd hc
    refine wpAny_pyNext_enum_itemC (Draws.tuple hd it a nai its.toArray) he ⟨hit, tup⟩ (by have := (List.getElem?_eq_some_iff.mp hu).1; simpa using this) ne nea fun y h' tk py ho st' hT hsz hk => ?_
    have ey : y = u := by
      have py : its.toArray[i]? = some y := py
      rw [List.getElem?_toArray, hu] at py
      exact (Option.some.inj py).symm
    subst ey
    refine ⟨_, rfl, wpAny_letOwnedTupleGo_enum (s := { s with heap := h', toks := tk + 1 }) ho fun h2 he2 sb => ?_⟩
    have hT2 : h2.get? s.heap.objs.size = some { cls := .type "tuple", data := .seq #[.int i tk, y] } := (sb.2 _ (Nat.ne_of_gt le_)).trans hT
    have new : ObjOk X.prog X.w (upd H s.heap.objs.size (.tup [.int (i : Nat), x])) h2 s.heap.objs.size (.tup [.int (i : Nat), x]) := ⟨by show 2 ≤ sizeLine; decide, [.int i tk, y], .cons ⟨_, rfl⟩ (.cons ru .nil), ⟨_, hT2, rfl, _, rfl⟩⟩
    have I2 : Inv X pins σ (upd H s.heap.objs.size (.tup [.int (i : Nat), x])) { s with heap := h2, toks := tk + 1 } :=
      I.turnedNew (ch := [e, it]) (fun b ob hb q => (sb.2 b (fun z => hb (by simp [z]))).trans (hk b ob (fun z => hb (by simp [z])) (fun z => hb (by simp [z])) q)) hf (Nat.le_refl _) new
    refine ⟨.ref s.heap.objs.size, _, I2, rfl, ⟨_, x, rfl, I.hok.fresh (Nat.le_refl _), rfl, fun ys hy => by rw [I.tuple_inj hy hq]; exact hx⟩, ⟨⟨y, ?_⟩, st'.1.at fun o q => (sb.2 it (Ne.symm ne)).trans q, ne, by omega⟩, fun b hb => ?_⟩
    · rw [show ((i + 1 : Nat) : Int) = (i : Int) + 1 by omega]; exact he2
    · have lb : b < s.heap.objs.size := by
        rcases List.mem_cons.mp hb with rfl | z
        · exact le_
        · rw [List.mem_singleton.mp z]; exact lit
      rw [upd_ne (Nat.ne_of_lt lb)]
      exact (hf b hb).1
  done := by
    intro X hP hw hK hc i pins s σ H E I hf ⟨⟨old, he⟩, hit, ne, hin⟩ ⟨xs, hq, hn, hi⟩
    subst hP hw hK
    obtain ⟨its, rv, p, hz⟩ := I.tuple hq
    have tup : s.heap.IsTuple a its.toArray := p
    obtain ⟨f0, f1, f2, f3, f4, f5⟩ := hf it (by simp)
    have nai : a ≠ it := fun z => by
      subst z
      obtain ⟨o1, q1, c1, d1⟩ := hit
      obtain ⟨o2, q2, c2, _⟩ := p
      rw [q1] at q2; cases q2
      rw [c1] at c2; exact absurd (c2 : (Value.type "tuple_iterator") = .type "tuple") (by decide)
    have hd : (X.A.in1).handled = none := I.ok.hd hc
    have sz : its.toArray.size = i := by rw [List.size_toArray, ← rv.length]; omega
    have st : s.heap.IsTupleIter it a its.toArray.size ∧ s.heap.IsTuple a its.toArray := ⟨by rw [sz]; exact hit, tup⟩
    exact wpAny_pyNext_enum_endD (Draws.tuple hd it a nai its.toArray) he st fun h' eb => ⟨rfl, I.turned (t' := s.toks) (fun b o hb q => eb b o hb q) f0 f1 f3 f4 f5⟩
  self := fun A i s Q E ⟨⟨_, he⟩, _⟩ h => wpAny_pyIter_enum he h
/-- enumerate of a list or of a tuple -/
def iEnumA (K : PySem.W.Frag) (te : TE) : TI := fun σ H R => te σ H fun v H1 => ∃ (a : Addr) (xs : List V), v = .ref a ∧ ((SqL K H1 a xs ∧ R (Ite K a) H1) ∨ (SqT K H1 a xs ∧ R (Iet K a xs.length) H1))
theorem pi_enumA {X : Cx} {e : Expr} {te : TE} {p pos tpos : Pos} {elts : List Expr} {kk : Nat} (hg : Gl X "enumerate") (hm : X.mg "enumerate" = none) (he : PE X e te) (hs : starEach [e] X.env = (false, eval e X.env) :: starEach [] X.env := by rfl) :
    PI X (.Tuple elts kk tpos) (.Call (.Name "enumerate" p) [e] [] pos) (iEnumA X.K te) := by
  refine ⟨fun pins s σ H R I h => ?_⟩
  refine Call_ (ld_blt I hg hm boot_enumerate (PyProof.Rows.callWith_type1 (args_cons (thn (he.run pins s σ H _ I h) fun u s1 ⟨v, H1, I1, r1, q1⟩ => args_nil ?_) hs) hs rfl))
  obtain ⟨a, xs, rfl, q1⟩ := q1
  obtain rfl : u = Value.ref a := r1
  have fp : ∀ b ∈ [s1.heap.objs.size + 1, s1.heap.objs.size], FpOk X pins H1 b := fun b hb => by
    have lb : s1.heap.objs.size ≤ b := by
      rcases List.mem_cons.mp hb with rfl | z
      · exact Nat.le_add_right _ _
      · rw [List.mem_singleton.mp z]; exact Nat.le_refl _
    exact I1.fpOk lb (I1.hok.fresh lb)
  rcases q1 with ⟨hq, q⟩ | ⟨hq, q⟩
  · obtain ⟨its, rv, pl, -⟩ := I1.list hq
    refine call_enumerate_list pl.isList fun h' he hit hsz hk => wpAny_pyIter_enum he ?_
    exact ⟨s1.heap.objs.size + 1, [s1.heap.objs.size + 1, s1.heap.objs.size], _, _, H1, rfl, I1.kept (t' := s1.toks) hk, turn_enum a (s1.heap.objs.size + 1) s1.heap.objs.size, ⟨⟨.none, he⟩, hit, Nat.succ_ne_self _⟩, fp, q⟩
  · obtain ⟨its, rv, pl, -⟩ := I1.tuple hq
    refine call_enum1 (begins_tuple a its.toArray) pl fun h' he hit hsz hk => wpAny_pyIter_enum he ?_
    exact ⟨s1.heap.objs.size + 1, [s1.heap.objs.size + 1, s1.heap.objs.size], _, _, H1, rfl, I1.kept (t' := s1.toks) hk, turn_enumT a (s1.heap.objs.size + 1) s1.heap.objs.size xs.length, ⟨⟨.none, he⟩, ⟨_, hit, rfl, rfl⟩, Nat.succ_ne_self _, Nat.zero_le _⟩, fp, q⟩

/-! ### what it serves -/
theorem enum_len : ∀ (n : Nat) (xs : List D), (enumFrom n xs).length = xs.length
  | _, [] => rfl
  | n, _ :: xs => congrArg (· + 1) (enum_len (n + 1) xs)
theorem enum_get : ∀ (n : Nat) (xs : List D) {i : Nat} {d : D}, (enumFrom n xs)[i]? = some d → ∃ x, xs[i]? = some x ∧ d = .tup [.int ((n + i : Nat) : Int), x]
  | _, [], i, d, e => by simp [enumFrom] at e
  | n, x :: xs, 0, d, e => by
    cases e
    exact ⟨x, rfl, rfl⟩
  | n, x :: xs, i + 1, d, e => by
    obtain ⟨y, h1, h2⟩ := enum_get (n + 1) xs (i := i) (d := d) e
    exact ⟨y, h1, by rw [h2, show n + 1 + i = n + (i + 1) by omega]⟩
section
variable {G : Gx} {W : WX} {cl : Cl} {k : Nat} {N : List Str} {sc : Scope} {st : List Str} {X : Cx} {ι : List Addr} {H : Hp}
theorem serves_enumL {a : Addr} {s : Src} {xs : List D} (t : Stay G (fun H' vs => SqL G.K H' a vs) ι H s xs) : Serves G (Ite G.K a) ι H s (enumFrom 0 xs) where
  stop := fun rs ι' H' h' z x r u => by
    obtain ⟨vs, h1, h2⟩ := t rs ι' H' h' z x r u
    exact ⟨vs, h1, by rw [h2.length, enum_len]; exact Nat.le_refl _⟩
  go := fun i d rs ι' H' h' z x r u e => by
    obtain ⟨vs, h1, h2⟩ := t rs ι' H' h' z x r u
    obtain ⟨y, e1, -⟩ := enum_get 0 xs e
    obtain ⟨v, h3, -⟩ := h2.get e1
    exact ⟨vs, v, h1, h3⟩
  item := fun i d rs ι' H' h' v H2 z x r u e y => by
    obtain ⟨vs, h1, h2⟩ := t rs ι' H' h' z x r u
    obtain ⟨dx, e1, rfl⟩ := enum_get 0 xs e
    obtain ⟨w, h3, h4⟩ := h2.get e1
    obtain ⟨T, y1, rfl, np, rfl, y2⟩ := y
    have := y2 vs h1
    rw [h3] at this; cases this
    rw [Nat.zero_add]
    exact ⟨Ext.laid r np, r.laid np, .tup (.inl ⟨r.out np, .inl upd_same⟩) (.cons (.int i) (.cons (h4.ext (Ext.laid r np)) .nil)), fun b m => upd_ne fun eb => r.nrs np (eb ▸ List.mem_append_left _ m)⟩
theorem serves_enumT {a : Addr} {s : Src} {xs : List D} {n : Nat} (hn : n = xs.length) (t : Stay G (fun H' vs => SqT G.K H' a vs) ι H s xs) : Serves G (Iet G.K a n) ι H s (enumFrom 0 xs) where
  stop := fun rs ι' H' h' z x r u => by
    obtain ⟨vs, h1, h2⟩ := t rs ι' H' h' z x r u
    exact ⟨vs, h1, by rw [h2.length, hn], by rw [enum_len, hn]; exact Nat.le_refl _⟩
  go := fun i d rs ι' H' h' z x r u e => by
    obtain ⟨vs, h1, h2⟩ := t rs ι' H' h' z x r u
    obtain ⟨y, e1, -⟩ := enum_get 0 xs e
    obtain ⟨v, h3, -⟩ := h2.get e1
    exact ⟨vs, v, h1, by rw [h2.length, hn], h3⟩
  item := fun i d rs ι' H' h' v H2 z x r u e y => by
    obtain ⟨vs, h1, h2⟩ := t rs ι' H' h' z x r u
    obtain ⟨dx, e1, rfl⟩ := enum_get 0 xs e
    obtain ⟨w, h3, h4⟩ := h2.get e1
    obtain ⟨T, y1, rfl, np, rfl, y2⟩ := y
    have := y2 vs h1
    rw [h3] at this; cases this
    rw [Nat.zero_add]
    exact ⟨Ext.laid r np, r.laid np, .tup (.inl ⟨r.out np, .inl upd_same⟩) (.cons (.int i) (.cons (h4.ext (Ext.laid r np)) .nil)), fun b m => upd_ne fun eb => r.nrs np (eb ▸ List.mem_append_left _ m)⟩
theorem x_enum {elts : List Expr} {kk : Nat} {e : Expr} {ie : E} {p pos tpos : Pos} (g : Gd G W k N sc st X) (hg : Gl X "enumerate") (hm : X.mg "enumerate" = none) (he : PE X e (tE G W cl ie)) (pl : plainE e = true) : PI X (.Tuple elts kk tpos) (.Call (.Name "enumerate" p) [e] [] pos) (tI G W cl (.enum ie)) := by
  refine PI.of (pi_enumA hg hm he (star_cons pl)) ?_
  rintro σ H Q ⟨ι, ρ, q, er, rq, f⟩
  refine ⟨ι, ρ, q, er, rq, (FinV.bindI f).imp ?_⟩
  rintro v1 H1 ⟨ι1, d1, h1, e1, r1, q1, -, f1⟩
  cases es : seqOf h1 d1 with
  | none => rw [es] at f1; exact f1.elim
  | some xs =>
    rw [es] at f1
    rw [g.hK]
    obtain ⟨a, rfl, t⟩ := seq_stay r1 q1 es
    rcases t with t | t
    · obtain ⟨ys, t1, t2⟩ := t [] ι1 H1 h1 (fun _ m => nomatch m) .refl r1 (unch_src r1 q1)
      exact ⟨a, ys, rfl, .inl ⟨t1, f1 ι1 H1 _ .refl r1 (serves_enumL t)⟩⟩
    · obtain ⟨ys, t1, t2⟩ := t [] ι1 H1 h1 (fun _ m => nomatch m) .refl r1 (unch_src r1 q1)
      exact ⟨a, ys, rfl, .inr ⟨t1, f1 ι1 H1 _ .refl r1 (serves_enumT t2.length t)⟩⟩
end
end Rx

/-! RxQ: a list comprehension whose list is changed later. -/
namespace Rx
open PySem L2
variable {G : Gx} {W : WX} {cl : Cl} {k : Nat} {N : List Str} {sc : Scope} {st st' : List Str} {X : Cx}
variable {ι ι' ι1 : List Addr} {H H' H1 : Hp} {h h' : Hq} {σ : MSt} {v : V} {d : D} {a D₀ : Addr} {acc vs : List V} {ws ds : List D} {Q : VK}
theorem ne_mem_ad (n : a ∉ (G.ad [D₀]).rs) : a ≠ D₀ ∧ a ∉ G.rs := ⟨fun e => n (List.mem_append_left _ (by rw [e]; exact List.mem_singleton_self _)), fun m => n (List.mem_append_right _ m)⟩
theorem not_app (h1 : a ∉ ι) (h2 : a ≠ D₀) : a ∉ ι ++ [D₀] := fun m => by
  rcases List.mem_append.mp m with m | m
  · exact h1 m
  · exact h2 (List.mem_singleton.mp m)
/-- neither a tuple nor the script -/
def NoFz (u : HO) : Prop := (∀ xs, u ≠ .tup xs) ∧ ∀ o x, u ≠ .frz o x
theorem noFz_lst {acc : List V} : NoFz (.lst acc) := ⟨(fun _ e => nomatch e), fun _ _ e => nomatch e⟩
variable {u : HO}
theorem TQ.own (hu : NoFz u) (hd : H D₀ = some u) (q : TQ (G.ad [D₀]) ι H a vs) : TQ G (ι ++ [D₀]) H a vs := by
  rcases q with ⟨n, q⟩ | q
  · refine .inl ⟨not_app n fun e => ?_, q⟩
    subst e
    rcases q with q | ⟨o, q⟩ <;> rw [hd] at q <;> injection q with q
    · exact hu.1 _ q
    · exact hu.2 _ _ q
  · exact .inr q
theorem SQ.own (hu : NoFz u) (hd : H D₀ = some u) (q : SQ (G.ad [D₀]) ι H a vs) : SQ G (ι ++ [D₀]) H a vs := by
  rcases q with ⟨n, o, q⟩ | q
  · refine .inl ⟨not_app n fun e => ?_, o, q⟩
    subst e
    rw [hd] at q; injection q with q; exact hu.2 _ _ q
  · exact .inr q
mutual
theorem VR.own (hu : NoFz u) (hd : H D₀ = some u) : ∀ {v : V} {d : D}, VR (G.ad [D₀]) ι H v d → VR G (ι ++ [D₀]) H v d
  | _, _, .non => .non
  | _, _, .bl b => .bl b
  | _, _, .int i => .int i
  | _, _, .str x => .str x
  | _, _, .tup q r => .tup (TQ.own hu hd q) (VRs.own hu hd r)
  | _, _, .lst n q r => .lst ⟨not_app n.1 (ne_mem_ad n.2).1, (ne_mem_ad n.2).2⟩ q (VRs.own hu hd r)
  | _, _, .slst q r => .slst (SQ.own hu hd q) (VRs.own hu hd r)
  | _, _, .dct n q z r1 r2 => .dct ⟨not_app n.1 (ne_mem_ad n.2).1, (ne_mem_ad n.2).2⟩ q z (VRs.own hu hd r1) (VRs.own hu hd r2)
  | _, _, .ref q => .ref (by rw [List.getElem?_append_left (List.getElem?_eq_some_iff.mp q).1]; exact q)
theorem VRs.own (hu : NoFz u) (hd : H D₀ = some u) : ∀ {vs : List V} {ds : List D}, VRs (G.ad [D₀]) ι H vs ds → VRs G (ι ++ [D₀]) H vs ds
  | _, _, .nil => .nil
  | _, _, .cons r t => .cons (VR.own hu hd r) (VRs.own hu hd t)
end
theorem OR.own {o : Ob} (hu : NoFz u) (hd : H D₀ = Option.some u) (r : OR (G.ad [D₀]) ι H a o) : OR G (ι ++ [D₀]) H a o := by
  cases r with
  | lst q r => exact .lst q (r.own hu hd)
  | dct q z r1 r2 => exact .dct q z (r1.own hu hd) (r2.own hu hd)
  | ins m q n r => exact .ins m q n (r.own hu hd)
theorem Ext.own (x : Ext ι1 H1 ι H) (hD : H1 D₀ = none) : Ext ι1 H1 (ι ++ [D₀]) H := by
  obtain ⟨t, e⟩ := x.pre
  refine ⟨⟨t ++ [D₀], by rw [e, List.append_assoc]⟩, fun a m => ?_, x.keep⟩
  rcases List.mem_append.mp m with m | m
  · exact x.new a m
  · rw [List.mem_singleton.mp m]; exact .inr hD
/-- what is held becomes a place -/
theorem HR.ownA {ob : Ob} (r : HR (G.ad [D₀]) ι h H) (nr : D₀ ∉ G.rs) (hu : NoFz u) (hd : H D₀ = some u) (new : OR (G.ad [D₀]) ι H D₀ ob) : HR G (ι ++ [D₀]) (h ++ [ob]) H := by
  have dn : D₀ ∉ ι := (r.rsv D₀ (List.mem_append_left _ (List.mem_singleton_self _))).1
  refine ⟨by simp [r.len], ?_, fun i o a h1 h2 => ?_, fun a m => ⟨not_app (r.rsv a (List.mem_append_right _ m)).1 fun e => nr (e ▸ m), (r.rsv a (List.mem_append_right _ m)).2⟩⟩
  · rw [List.nodup_append]
    refine ⟨r.nd, by simp, fun x hx y hy => ?_⟩
    rw [List.mem_singleton] at hy
    subst hy
    rintro rfl; exact dn hx
  · by_cases hi : i < h.length
    · rw [List.getElem?_append_left hi] at h1
      rw [List.getElem?_append_left (by rw [r.len]; exact hi)] at h2
      exact (r.at_ i o a h1 h2).own hu hd
    · have e : i = h.length := by
        have := (List.getElem?_eq_some_iff.mp h1).1
        simp at this; omega
      subst e
      have e1 : o = ob := by simpa using h1.symm
      have e2 : a = D₀ := by
        rw [← r.len] at h2
        simpa using h2.symm
      subst e1 e2
      exact new.own hu hd
theorem HR.own (r : HR (G.ad [D₀]) ι h H) (nr : D₀ ∉ G.rs) (hd : H D₀ = some (.lst acc)) (va : VRs (G.ad [D₀]) ι H acc ws) : HR G (ι ++ [D₀]) (h ++ [.lst ws]) H :=
  r.ownA nr noFz_lst hd (.lst hd va)
section
variable {G : Gx} {W : WX} {cl : Cl} {k : Nat} {N : List Str} {sc : Scope} {st st' : List Str} {X : Cx}
variable {ι ι' : List Addr} {H H' : Hp} {h h' : Hq} {ρ : Ev} {σ σ' : MSt} {v : V} {d : D} {a : Addr}
variable {elt tg iter : Expr} {ifs : List Expr} {scope : Scope} {own : List (Str × Nat)} {pos : Pos} {it : It} {t : T} {cond x : E}
theorem lcM_read {it : It} {t : T} {cond x : E} {vs : List Nat} (hvs : vs = t.slots) {σ : MSt} {H : Hp} {Q : VK} (h : tE G W cl (.b1 .listM (.lc it t cond x)) σ H Q) :
    tI G W cl it σ H fun J H1 => ∀ D, H1 D = none → ∃ Wi : Nat → Nat → Hp → Prop, (∃ m, Wi 0 m (upd H1 D (.lst []))) ∧ ∀ i m Hc, Wi i m Hc →
      (J.stop i Hc ∧ Q (.ref D) Hc) ∨ (J.go i Hc ∧ ∃ Nx : Hp → Prop, (∀ H', Nx H' → ∃ m', m' < m ∧ Wi (i + 1) m' H') ∧ ∀ v H2, J.yld i Hc v H2 → tG (G.ad [D]) cl t v (wipe σ vs) H2 fun σ2 H3 => wipe σ2 vs = wipe σ vs ∧ tT (G.ad [D]) never cl cond σ2 H3 fun b H4 =>
        if b = true then tE (G.ad [D]) never cl x σ2 H4 fun y H5 => ∃ acc, H5 D = some (.lst acc) ∧ acc.length < sizeLine ∧ Nx (upd H5 D (.lst (acc ++ [y]))) else Nx H4) := by
  subst hvs
  obtain ⟨ι, ρ, h, er, hr, f⟩ := h
  refine ⟨ι, ρ, h, er, hr, ?_⟩
  have f : FinV G W ι H σ (((evIt cl it ρ h).bind fun sx h1 => if fits sx.2.length then
      ((lcL sx.1 (fun d h => evT cl t d (wipeE ρ t.slots) h) (fun ρ h => tst (evE cl cond ρ h)) (fun ρ h => evE cl x ρ h) sx.2 h1).nox).bind fun ds h2 => .ok (.lst ds) h2
      else .er).bind fun y h1 => b1D h1 .listM y) Q := f
  cases e : evIt cl it ρ h with
  | er => rw [e] at f; exact f.elim
  | xc y h1 => rw [e] at f; exact f
  | ok sx h1 =>
    obtain ⟨s, xs⟩ := sx
    rw [e, R.bind_ok] at f
    dsimp only at f
    split at f
    · rename_i hfit
      have hfit : xs.length ≤ sizeLine := of_decide_eq_true hfit
      generalize hA : (fun d h => evT cl t d (wipeE ρ t.slots) h) = A at f
      generalize hB : (fun ρ h => tst (evE cl cond ρ h)) = B at f
      generalize hC : (fun ρ h => evE cl x ρ h) = C at f
      cases el : lcL s A B C xs h1 with
      | er => rw [el] at f; exact f.elim
      | xc => rw [el] at f; exact f.elim
      | ok ds h2 =>
        rw [el] at f
        have f : ∀ ι' H' v, Ext ι H ι' H' → HR G ι' (h2 ++ [.lst ds]) H' → VR G ι' H' v (.ref h2.length) → Q v H' := f
        intro ι1 H1 J x1 r1 sv D hD
        have fr : ∀ b ∈ [D], H1 b = none := fun b m => by rw [List.mem_singleton] at m; rw [m]; exact hD
        have mD : D ∈ (G.ad [D]).rs := List.mem_append_left _ (List.mem_singleton.mpr rfl)
        refine ⟨fun i m Hc => m + i = xs.length ∧ ∃ ι' h' acc ws dr, Ext ι1 H1 ι' Hc ∧ HR (G.ad [D]) ι' h' Hc ∧ Hc D = some (.lst acc) ∧ VRs (G.ad [D]) ι' Hc acc ws ∧ acc.length ≤ i ∧ lcL s A B C (xs.drop i) h' = .ok dr h2 ∧ ws ++ dr = ds,
          ⟨xs.length, by omega, ι1, h1, [], [], ds, Ext.laid r1 hD, r1.hold hD, upd_same, .nil, Nat.le_refl _, el, rfl⟩, ?_⟩
        rintro i m Hc ⟨him, ι', h', acc, ws, dr, xx, r, hd, va, hl, hlc, hws⟩
        cases hm : m with
        | zero =>
          have hi : i = xs.length := by omega
          subst hi
          rw [List.drop_length] at hlc
          unfold lcL at hlc
          split at hlc
          · rename_i u
            cases hlc
            rw [List.append_nil] at hws
            subst hws
            refine .inl ⟨sv.stop [D] ι' Hc h2 fr xx r u, f (ι' ++ [D]) Hc _ (x1.trans (xx.own hD)) (r.own (r1.nrs hD) hd va) (.ref ?_)⟩
            rw [← r.len]; simp
          · cases hlc
        | succ m' =>
          subst hm
          have hi : i < xs.length := by omega
          rw [List.drop_eq_getElem_cons hi] at hlc
          unfold lcL at hlc
          split at hlc
          · rename_i u
            have hx : xs[i]? = some xs[i] := by simp [hi]
            refine .inr ⟨sv.go i _ [D] ι' Hc h' fr xx r u hx, fun Hn => m' + (i + 1) = xs.length ∧ ∃ ι' h' acc ws dr, Ext ι1 H1 ι' Hn ∧ HR (G.ad [D]) ι' h' Hn ∧ Hn D = some (.lst acc) ∧ VRs (G.ad [D]) ι' Hn acc ws ∧ acc.length ≤ i + 1 ∧ lcL s A B C (xs.drop (i + 1)) h' = .ok dr h2 ∧ ws ++ dr = ds,
              fun H' z => ⟨m', Nat.lt_succ_self _, z⟩, ?_⟩
            intro v H2 y
            obtain ⟨x2, r2, q2, hD2⟩ := sv.item i _ [D] ι' Hc h' v H2 fr xx r u hx y
            have d2 : H2 D = some (.lst acc) := (hD2 D (List.mem_singleton.mpr rfl)).trans hd
            refine ⟨ι', wipeE ρ t.slots, h', xs[i], ((((er.ext x1).ad fr).ext xx).ext x2).wiped, r2, q2, ?_⟩
            cases eA : A xs[i] h' with
            | er => rw [eA] at hlc; cases hlc
            | xc => rw [eA] at hlc; cases hlc
            | ok ρ3 h3 =>
              rw [eA, R.bind_ok] at hlc
              have eA' : evT cl t xs[i] (wipeE ρ t.slots) h' = .ok ρ3 h3 := by rw [← hA] at eA; exact eA
              rw [eA']
              intro ι3 H3 σ3 x3 r3 er3 o3
              have d3 : H3 D = some (.lst acc) := x3.keep D _ d2 (r2.rsv D mD).1
              refine ⟨o3.wipe.trans wipe_twice, ι3, ρ3, h3, er3, r3, ?_⟩
              cases eB : B ρ3 h3 with
              | er => rw [eB] at hlc; cases hlc
              | xc => rw [eB] at hlc; cases hlc
              | ok b h4 =>
                rw [eB, R.bind_ok] at hlc
                have eB' : tst (evE cl cond ρ3 h3) = .ok b h4 := by rw [← hB] at eB; exact eB
                rw [eB']
                intro ι4 H4 x4 r4
                have d4 : H4 D = some (.lst acc) := x4.keep D _ d3 (r3.rsv D mD).1
                cases b with
                | false =>
                  exact ⟨by omega, ι4, h4, acc, ws, dr, ((xx.trans x2).trans x3).trans x4, r4, d4, ((va.ext x2).ext x3).ext x4, by omega, hlc, hws⟩
                | true =>
                  rw [if_pos rfl]
                  rw [if_pos rfl] at hlc
                  refine ⟨ι4, ρ3, h4, er3.ext x4, r4, ?_⟩
                  cases eC : C ρ3 h4 with
                  | er => rw [eC] at hlc; cases hlc
                  | xc => rw [eC] at hlc; cases hlc
                  | ok w h5 =>
                    rw [eC, R.bind_ok] at hlc
                    have eC' : evE cl x ρ3 h4 = .ok w h5 := by rw [← hC] at eC; exact eC
                    rw [eC']
                    intro ι5 H5 v5 x5 r5 q5
                    have d5 : H5 D = some (.lst acc) := x5.keep D _ d4 (r4.rsv D mD).1
                    cases eL : lcL s A B C (xs.drop (i + 1)) h5 with
                    | er => rw [eL] at hlc; cases hlc
                    | xc => rw [eL] at hlc; cases hlc
                    | ok dr' h6 =>
                      rw [eL, R.bind_ok] at hlc
                      cases hlc
                      refine ⟨acc, d5, by omega, by omega, ι5, h5, acc ++ [v5], ws ++ [w], dr', (((((xx.trans x2).trans x3).trans x4).trans x5).over hD), r5.over soft_lst mD d5, upd_same, ?_, by simp; omega, eL, by rw [← hws]; simp⟩
                      exact VRs.over soft_lst mD d5 (((((va.ext x2).ext x3).ext x4).ext x5).append (.cons q5 .nil))
          · cases hlc
    · exact f.elim
theorem lcM_tLc {it : It} {t : T} {cond x : E} {σ : MSt} {H : Hp} {Q : VK} (h : tE G W cl (.b1 .listM (.lc it t cond x)) σ H Q) : lcT G W cl it t cond x σ H Q := by
  obtain ⟨ι, ρ, hq, er, hr, f⟩ := lcM_read (vs := t.slots) rfl h
  refine ⟨ι, ρ, hq, er, hr, f.imp ?_⟩
  intro J H1 q D hD
  obtain ⟨Wi, m0, step⟩ := q D hD
  refine ⟨Wi, m0, fun i m Hc w => ?_⟩
  rcases step i m Hc w with z | ⟨go, Nx, hN, z⟩
  · exact .inl z
  · refine .inr ⟨go, Nx, hN, fun v H2 y => ⟨[D], (z v H2 y).imp ?_⟩⟩
    rintro σ2 H3 ⟨e, t⟩
    refine ⟨e, [D], t.imp ?_⟩
    intro b H4 q
    cases b with
    | false => exact q
    | true => exact ⟨[D], q⟩
theorem x_lcM (g : Gd G W k N sc st X) (hi : PI X tg iter (tI G W cl it)) (ok : BlkOk N sc scope own) (hown : own.map (·.2) = t.slots)
    (hst : ∀ x ∈ st', (scope.names.lookup x == some .cell) = true ∨ (relS scope sc).names.lookup x = some .local) (hb : LcOk G cl k N (relS scope sc) st' tg ifs elt t cond x) (hs : ∀ x, foldedSetIterable iter X.env x = pure x) :
    PE X (.ListComp elt [⟨tg, iter, ifs, 0⟩] scope pos) (tE G W cl (.b1 .listM (.lc it t cond x))) := by
  refine PE.of (pe_lc g.calm (by rw [g.hN]; exact g.nd) hi (by rw [g.hN, g.hsc]; exact ok) (fun s H C cs fp => PG.any fun rs => hb.tg rs _ (g.blk hst).ad) (fun s H C cs fp => PTs.any fun rs => hb.ts rs _ (g.blk hst).ad)
    (fun s H C cs fp => PE.any fun rs => hb.el rs _ (g.blk hst).ad) hs) ?_
  intro σ H Q h
  rw [hown]
  exact lcM_tLc h

theorem y_setLcM {i : Nat} {y : Str} {py spos : Pos} {w : Nat} (g : Gd G W k N sc st X) (hy : N[i]? = some y) (hyl : sc.names.lookup y = some .local) (hsw : swapsWith (.ListComp elt [⟨tg, iter, ifs, 0⟩] scope pos) (some (.Name y py)) spos.line X.env = pure true)
    (hi : PI X tg iter (tI G W cl it)) (ok : BlkOk N sc scope own) (hown : own.map (·.2) = t.slots)
    (hst : ∀ x ∈ st', (scope.names.lookup x == some .cell) = true ∨ (relS scope sc).names.lookup x = some .local) (hb : LcOk G cl k N (relS scope sc) st' tg ifs elt t cond x) (hs : ∀ x, foldedSetIterable iter X.env x = pure x) :
    PS X (.Assign [.Name y py] (.ListComp elt [⟨tg, iter, ifs, 0⟩] scope pos) spos) (tS G W cl w (.asg (.nm i) (.b1 .listM (.lc it t cond x)))) := by
  refine PS.of (ps_setLc g.calm (by rw [g.hN]; exact g.nd) (by rw [g.hN]; exact hy) (by rw [g.hsc]; exact hyl) hsw hi (by rw [g.hN, g.hsc]; exact ok) (fun s H C cs fp => PG.any fun rs => hb.tg rs _ (g.blk hst).ad) (fun s H C cs fp => PTs.any fun rs => hb.ts rs _ (g.blk hst).ad)
    (fun s H C cs fp => PE.any fun rs => hb.el rs _ (g.blk hst).ad) hs) ?_
  intro D σ H h
  rw [hown]
  refine lcM_tLc ((asg_read h).imp ?_)
  rintro v H1 ⟨ι, ρ, hq, d, er, hr, q, f⟩
  exact f ι H1 _ .refl hr (er.set q) Off.set
end
end Rx

/-! RxU: {}, {k: v}, methods of dicts. -/
namespace Rx
open PySem L2
variable {G : Gx} {W : WX} {cl : Cl} {k : Nat} {N : List Str} {sc : Scope} {st st' : List Str} {X : Cx}
variable {ι ι' : List Addr} {H H' : Hp} {h h' : Hq} {ρ : Ev} {σ σ' : MSt} {v : V} {d : D} {a : Addr}
theorem x_dctM {pos : Pos} : PE X (.Dict [] [] pos) (tE G W cl .dctM) := by
  refine PE.of pe_dnewK ?_
  rintro σ H Q ⟨ι, ρ, h, er, hr, f⟩ p np
  have f : FinV G W ι H σ (.ok (.ref h.length) (h ++ [.dct [] []])) Q := f
  exact f (ι ++ [p]) _ _ (Ext.place np) (hr.place' np (.dct upd_same (.flat []) .nil .nil)) (.ref (by rw [← hr.len]; simp))
/-- {k: v}: the new dict stands empty at p while k and v are made -/
def tDisp1 (G : Gx) (tk tv : Addr → TE) : TE := fun σ H Q => ∀ p, H p = none → tk p σ (upd H p (.dK [])) fun y H1 => tv p σ H1 fun z H2 => ∃ o, PutG G H2 p y z o ∧ Q (.ref p) (upd H2 p o)
theorem pe_disp1 {kx vx : Expr} {tk tv : Addr → TE} {pos : Pos} (hK : X.K = G.K) (hP : X.prog = G.P) (hw : X.w = G.w) (hu : X.A.units + 64 < cLine) (hk : ∀ p, PE X kx (tk p)) (hv : ∀ p, PE X vx (tv p)) :
    PE X (.Dict [some kx] [vx] pos) (tDisp1 G tk tv) := by
  constructor
  intro pins s σ H Q I q
  have hn := I.hok.fresh (Nat.le_refl s.heap.objs.size)
  have I1 := I.laid (a := s.heap.objs.size) (o := .dK []) (h' := s.heap.push { cls := .type "dict", data := .dict #[] }) (t' := s.toks) (fun _ _ q => Heap.get?_push_of_some _ q) (Nat.le_refl _) (dk_empty s.heap I.big)
  rw [arm_eval_Dict, zip_pairTrees [some kx] [vx] X.env pos rfl rfl, dictDisplay_pairs _ (by intro z; cases z) (by rw [pairTrees_length [some kx] [vx] X.env pos rfl rfl]; exact (by decide : (1 : Nat) < 17))]
  refine wpAny_bind (wpAny_standAt (wpAny_bind ?_))
  unfold subDict
  refine wpAny_bind (wpAny_alloc (wpAny_bind (wpAny_holding ?_)))
  rw [if_pos (by rw [pairTrees_length [some kx] [vx] X.env pos rfl rfl]; exact (by decide : (1 : Nat) ≤ 15))]
  refine wpAny_bind ?_
  refine pairTrees_cons_walk (thn ((hk _).run pins _ σ _ _ I1 (q _ hn)) fun u s1 ⟨x, H1, I1, rx, q1⟩ => thn ((hv _).run pins s1 σ H1 _ I1 q1) fun w2 s2 ⟨y, H2, I2, ry, o, p, q2⟩ => pairTrees_nil_walk (wpAny_holding ?_))
  rw [List.forIn_cons]
  refine wpAny_bind (wpAny_bind (show wpAny _ _ (dictSet s.heap.objs.size u w2 >>= fun _ => pure (ForInStep.yield PUnit.unit)) _ _ _ from wpAny_bind ((p X pins σ s2 u w2 hK hP hw hu I2 rx ry X.xe _ fun s' I' => ?_).1)))
  refine wpAny_pure ?_
  show wpAny _ _ (forIn [] PUnit.unit _) _ _ _
  rw [List.forIn_nil]
  exact wpAny_pure (wpAny_pure (wpAny_pure (wpAny_pure ⟨.ref _, _, I', rfl, q2⟩)))
theorem Gd.nev (g : Gd G W k N sc st X) : Gd G never k N sc st X := ⟨g.hN, g.hsc, g.nd, g.hP, g.hw, g.hK, g.hm, g.hb, g.calm, g.rm, fun u s' x => by
  obtain ⟨_, _, _, _, _, _, _, _, _, _, _, _, _, _, _, _, z⟩ := x
  exact z.elim, g.own, g.sto⟩
theorem noFz_dK {l : List (Key × V)} : NoFz (.dK l) := ⟨(fun _ e => nomatch e), fun _ _ e => nomatch e⟩
theorem x_dct1 {kx vx : Expr} {ik iv : E} {pos : Pos} (g : Gd G W k N sc st X) (hk : ∀ rs, PE X kx (tE (G.ad rs) never cl ik)) (hv : ∀ rs, PE X vx (tE (G.ad rs) never cl iv)) : PE X (.Dict [some kx] [vx] pos) (tE G W cl (.dct1 ik iv)) := by
  refine PE.of (pe_disp1 (G := G) (tk := fun p => tE (G.ad [p]) never cl ik) (tv := fun p => tE (G.ad [p]) never cl iv) g.hK g.hP g.hw g.rm.u64 (fun p => hk [p]) (fun p => hv [p])) ?_
  rintro σ H Q ⟨ι, ρ, h, er, hr, f⟩ p np
  have fr : ∀ b ∈ [p], H b = none := fun b m => by rw [List.mem_singleton] at m; rw [m]; exact np
  have f : FinV G W ι H σ ((evE cl ik ρ h).nox.bind fun x h1 => (evE cl iv ρ h1).nox.bind fun y h2 => if keyFit [] x then .ok (.ref h2.length) (h2 ++ [.dct [x] [y]]) else .er) Q := f
  have x0 : Ext ι H ι (upd H p (.dK [])) := Ext.laid hr np
  refine ⟨ι, ρ, h, (er.ad fr).ext x0, hr.hold np, ?_⟩
  cases e1 : evE cl ik ρ h with
  | er => rw [e1] at f; exact f.elim
  | xc => rw [e1] at f; exact f.elim
  | ok d1 h1 =>
    rw [e1] at f
    have f : FinV G W ι H σ ((evE cl iv ρ h1).nox.bind fun y h2 => if keyFit [] d1 then .ok (.ref h2.length) (h2 ++ [.dct [d1] [y]]) else .er) Q := f
    intro ι1 H1 v1 x1 r1 q1
    refine ⟨ι1, ρ, h1, ((er.ad fr).ext x0).ext x1, r1, ?_⟩
    cases e2 : evE cl iv ρ h1 with
    | er => rw [e2] at f; exact f.elim
    | xc => rw [e2] at f; exact f.elim
    | ok d2 h2 =>
      rw [e2] at f
      have f : FinV G W ι H σ (if keyFit [] d1 then .ok (.ref h2.length) (h2 ++ [.dct [d1] [d2]]) else .er) Q := f
      by_cases kf : keyFit [] d1 = true
      · rw [if_pos kf] at f
        intro ι2 H2 v2 x2 r2 q2
        have pn : p ∉ ι := hr.out np
        have hp2 : H2 p = some (.dK []) := (x1.trans x2).keep p _ upd_same pn
        obtain ⟨o, kvs, vvs, pg, z, w1, w2⟩ := put_ok (ks := []) (ws := []) hp2 (.flat []) .nil .nil (q1.ext x2) q2 kf (by rw [sizeLine_eq]; decide)
        refine ⟨o, pg, ?_⟩
        have zn := z.notTup
        have mp : p ∈ ι2 ++ [p] := List.mem_append_right _ (List.mem_singleton_self _)
        have xa : Ext ι H (ι2 ++ [p]) H2 := (x0.trans (x1.trans x2)).own np
        have xb : Ext (ι2 ++ [p]) H2 (ι2 ++ [p]) (upd H2 p o) := Ext.write mp
        have ra := r2.ownA (hr.nrs np) noFz_dK hp2 (ob := .dct [] []) (.dct hp2 (.flat []) .nil .nil)
        have ip : (ι2 ++ [p])[h2.length]? = some p := by rw [← r2.len]; simp
        have rb := ra.write (o := .dct [d1] [d2]) ip (.dct upd_same z ((w1.own noFz_dK hp2).ext xb) ((w2.own noFz_dK hp2).ext xb))
        have es : (h2 ++ [Ob.dct [] []]).set h2.length (.dct [d1] [d2]) = h2 ++ [.dct [d1] [d2]] := by simp
        rw [es] at rb
        exact f (ι2 ++ [p]) _ _ (xa.trans xb) rb (.ref ip)
      · rw [if_neg kf] at f; exact f.elim

/-! ### methods -/
theorem few2 {a b : Expr} {env : Env} {cpos : Pos} (pl : plainE a = true) (pl2 : plainE b = true) : ((backTo cpos (starEach [a, b] env)).all (fun x => !x.1) && (backToKw cpos (keywordEach [] env)).all (fun x => x.1.isSome)
      && decide (([a, b] : List Expr).length + ([] : List Keyword).length + (if ([] : List Keyword).isEmpty then 0 else 1) < 30)) = true := by
  rw [star_cons pl, star_cons pl2]; rfl
/-- what a dict is, by its class -/
def IsDc (G : Gx) (H : Hp) (a : Addr) : Prop := ∀ (X : Cx) (pins : List (Addr × Obj)) (σ : MSt) (s : Shared), X.K = G.K → X.prog = G.P → X.w = G.w → X.A.units + 64 < cLine → Inv X pins σ H s →
  s.TypeIs (.ref a) "dict" ∧ (∀ b, Value.ref a = .ref b → ∃ ob, s.heap.get? b = some ob ∧ ob.dict = none)
theorem isDc {o : HO} {kvs vvs : List V} {ks ws : List D} (ho : H a = some o) (z0 : DO G a o kvs vvs ks) (q1 : VRs G ι H kvs ks) : IsDc G H a := by
  intro X pins σ s hK hP hw hu I
  cases z0 with
  | flat l => exact ⟨dict_typeIs I (.k (k := .inl 0) ho), dict_noDict I (.k (k := .inl 0) ho)⟩
  | nest xs z1 z2 z3 z4 z5 =>
    obtain ⟨-, ys, -, dd⟩ := nk_at hK hP hw I ho q1 z3 z4
    refine ⟨dd.typeIs, fun b e => ?_⟩
    cases e
    obtain ⟨ob, _, _, h1, h2, _⟩ := dd
    exact ⟨ob, h1, h2.2.1⟩
def tDM (G : Gx) (r : V → List V → Hp → VK → Prop) (to : TE) (t : TA) : TE := fun σ H Q => to σ H fun x H1 => (∃ a, x = .ref a ∧ IsDc G H1 a) ∧ t σ H1 fun xs H2 => r x xs H2 Q
theorem pe_dm {o e : Expr} {es : List Expr} {to : TE} {t : TA} {name : Str} {id : String} {apos cpos : Pos} {r : V → List V → Hp → VK → Prop} (g : Gd G W k N sc st X) (slot : Slot "dict" name id) (hty : typeOf (.builtin id) = pure (.type "method_descriptor")) (hm : MtR X id r) (ho : PE X o to) (ha : PA X (e :: es) t)
    (hbase : attributeBase o name X.env (eval o X.env) = eval o X.env)
    (hfew : ((backTo cpos (starEach (e :: es) X.env)).all (fun x => !x.1) && (backToKw cpos (keywordEach [] X.env)).all (fun x => x.1.isSome)
      && decide ((e :: es).length + ([] : List Keyword).length + (if ([] : List Keyword).isEmpty then 0 else 1) < 30)) = true)
    (hline : (apos.endLine == cpos.line) = true) (hs : starEach (e :: es) X.env = (false, eval e X.env) :: starEach es X.env) (hplain : (backTo cpos (starEach es X.env)).any (·.1) = false) :
    PE X (.Call (.Attribute o name apos) (e :: es) [] cpos) (tDM G r to t) := by
  refine ⟨fun pins s σ H Q I h => ?_⟩
  refine wpAny_Call_method_late hbase hfew hline rfl (thn (ho.run pins s σ H _ I h) fun v s1 ⟨x, H1, I1, r1, ⟨a, ex, ty⟩, q1⟩ => ?_)
  subst ex
  obtain rfl : v = .ref a := r1
  obtain ⟨h1, h2⟩ := ty X pins σ s1 g.hK g.hP g.hw g.rm.u64 I1
  refine ⟨"dict", id, PySem.F.plainAttrs_dict, slot, hty, h1, h2, ?_⟩
  have hA := ha.run cpos pins s1 σ H1 _ I1 q1
  rw [hs] at hA ⊢
  refine Calls.callWith_builtin (by show (false || (backTo cpos (starEach es X.env)).any (·.1)) = false; rw [hplain] <;> rfl) (Calls.evalArgs_plain ?_)
  exact thn hA fun us s2 ⟨vs, H2, I2, r2, q2⟩ => hm pins s2 σ H2 (.ref a) vs _ us Q I2 rfl r2 q2
/-- the reading of such a method -/
def rDm (G : Gx) (W : WX) (m : Bm) : V → List V → Hp → VK → Prop := fun x xs H Q => ∃ ι h d ds σ, HR G ι h H ∧ VR G ι H x d ∧ VRs G ι H xs ds ∧ FinV G W ι H σ (bmD h m d ds) Q
theorem x_dm {o e : Expr} {es : List Expr} {io : E} {is : Es} {m : Bm} {name : Str} {id : String} {p pos : Pos} (g : Gd G W k N sc st X) (slot : Slot "dict" name id) (hty : typeOf (.builtin id) = pure (.type "method_descriptor")) (hm : MtR X id (rDm G W m))
    (isd : ∀ h d, bmOk h m d = true → isDct h d = true) (ho : PE X o (tE G W cl io)) (ha : PA X (e :: es) (tEs G W cl is)) (po : plainO o = true) (hl : (p.endLine == pos.line) = true)
    (hfew : ((backTo pos (starEach (e :: es) X.env)).all (fun x => !x.1) && (backToKw pos (keywordEach [] X.env)).all (fun x => x.1.isSome)
      && decide ((e :: es).length + ([] : List Keyword).length + (if ([] : List Keyword).isEmpty then 0 else 1) < 30)) = true)
    (hs : starEach (e :: es) X.env = (false, eval e X.env) :: starEach es X.env) (hplain : (backTo pos (starEach es X.env)).any (·.1) = false) :
    PE X (.Call (.Attribute o name p) (e :: es) [] pos) (tE G W cl (.bm m io is)) := by
  refine PE.of (pe_dm g slot hty hm ho ha (baseO po) hfew hl hs hplain) ?_
  rintro σ H Q ⟨ι, ρ, q, er, rq, f⟩
  refine ⟨ι, ρ, q, er, rq, (FinV.bind f).imp ?_⟩
  rintro v1 H1 ⟨ι1, d1, h1, e1, r1, q1, -, f1⟩
  have f1 : FinV G W ι1 H1 σ (if bmOk h1 m d1 then (evEs cl is ρ h1).bind fun ds h2 => bmD h2 m d1 ds else .er) Q := f1
  split at f1
  · rename_i hok
    have hd := isd _ _ hok
    unfold isDct at hd
    split at hd
    · rename_i ks ws ev
      obtain ⟨a, o, kvs, vvs, rfl, h2, h3, h4, h5⟩ := view_dct r1 q1 ev
      refine ⟨⟨a, rfl, isDc (ws := ws) h2 h3 h4⟩, ι1, ρ, h1, er.ext e1, r1, (FinL.bind f1).imp ?_⟩
      rintro vs H2 ⟨ι2, ds, h2, e2, r2, q2, -, f2⟩
      exact ⟨ι2, h2, d1, ds, σ, r2, q1.ext e2, q2, f2⟩
    · cases hd
  · exact f1.elim
theorem dctAt_is {h : Hq} {d : D} (e : (dctAt h d).isSome = true) : isDct h d = true := by
  unfold dctAt at e
  cases d <;> try (cases e; done)
  rename_i i
  dsimp only at e
  split at e
  · rename_i ks vs q
    have ev : view h (.ref i) = .dct ks vs := by show (match h[i]? with | some (.lst xs) => D.lst xs | some (.dct ks vs) => D.dct ks vs | _ => .ref i) = _; rw [q]
    unfold isDct
    rw [ev]
  · cases e
section
variable (g : Gd G W k N sc st X)
include g
theorem mt_dget : MtR X "dict.get" (rDm G W .get) := by
  rintro pins s σ0 H x xs v us Q I rx rxs ⟨ι, h, d, ds, σ, r, q, qs, f⟩
  match ds, xs, us, qs, rxs with
  | [], _, _, _, _ => exact f.elim
  | _ :: _ :: _, _, _, _, _ => exact f.elim
  | [kd], [y], [u], .cons qy .nil, .cons ru .nil =>
    have f : FinV G W ι H σ (match view h d with
      | .dct ks vs => if keyFit ks kd then .ok ((dgetK ks vs kd).getD .non) h else .er
      | _ => .er) Q := f
    split at f
    · rename_i ks ws ev
      split at f
      · rename_i kf
        obtain ⟨a, o, kvs, vvs, rfl, h2, h3, h4, h5⟩ := view_dct r q ev
        obtain ⟨gv, gg, tl⟩ := get_ok h2 h3 h4 h5 qy kf
        obtain rfl : v = .ref a := rx
        obtain ⟨-, -, -, g4, -⟩ := gg X pins σ0 s u g.hK g.hP g.hw g.rm.u64 I ru X.xe (EP X pins σ0 Q)
        refine g4 fun w' s' I' rw' => ⟨gv.getD .non, H, I', rw', ?_⟩
        cases e : dgetK ks ws kd with
        | none => rw [e] at f tl; rw [show gv = none from tl]; exact fin_same f r .non
        | some z => rw [e] at f tl; obtain ⟨z', rfl, rz⟩ := tl; exact fin_same f r rz
      · exact f.elim
    · exact f.elim
theorem mt_dget3 : MtR X "dict.get" (rDm G W .get3) := by
  rintro pins s σ0 H x xs v us Q I rx rxs ⟨ι, h, d, ds, σ, r, q, qs, f⟩
  match ds, xs, us, qs, rxs with
  | [], _, _, _, _ => exact f.elim
  | [_], _, _, _, _ => exact f.elim
  | _ :: _ :: _ :: _, _, _, _, _ => exact f.elim
  | [kd, xd], [y, z], [u, zu], .cons qy (.cons qz .nil), .cons ru (.cons rz .nil) =>
    have f : FinV G W ι H σ (match view h d with
      | .dct ks vs => if keyFit ks kd then .ok ((dgetK ks vs kd).getD xd) h else .er
      | _ => .er) Q := f
    split at f
    · rename_i ks ws ev
      split at f
      · rename_i kf
        obtain ⟨a, o, kvs, vvs, rfl, h2, h3, h4, h5⟩ := view_dct r q ev
        obtain ⟨gv, gg, tl⟩ := get_ok h2 h3 h4 h5 qy kf
        obtain rfl : v = .ref a := rx
        obtain ⟨-, -, -, -, g5, -⟩ := gg X pins σ0 s u g.hK g.hP g.hw g.rm.u64 I ru X.xe (EP X pins σ0 Q)
        refine g5 z zu rz fun w' s' I' rw' => ⟨gv.getD z, H, I', rw', ?_⟩
        cases e : dgetK ks ws kd with
        | none => rw [e] at f tl; rw [show gv = none from tl]; exact fin_same f r qz
        | some z => rw [e] at f tl; obtain ⟨z', rfl, rz⟩ := tl; exact fin_same f r rz
      · exact f.elim
    · exact f.elim
theorem dget_any : ∀ {ks ws : List D} {kd : D}, ks.length ≤ ws.length → dgetK ks ws kd = none → (ks.any fun q => decide (toK q = toK kd)) = false
  | [], _, _, _, _ => rfl
  | _ :: _, [], _, l, _ => by simp at l
  | q :: ks, w :: ws, kd, l, e => by
    unfold dgetK at e
    split at e
    · cases e
    · rename_i hn
      rw [List.any_cons, decide_eq_false hn, Bool.false_or]
      exact dget_any (by simpa using l) e
theorem mt_setd : MtR X "dict.setdefault" (rDm G W .setdefault) := by
  rintro pins s σ0 H x xs v us Q I rx rxs ⟨ι, h, d, ds, σ, r, q, qs, f⟩
  match ds, xs, us, qs, rxs with
  | [], _, _, _, _ => cases d <;> exact f.elim
  | [_], _, _, _, _ => cases d <;> exact f.elim
  | _ :: _ :: _ :: _, _, _, _, _ => cases d <;> exact f.elim
  | [kd, xd], [y, z], [u, zu], .cons qy (.cons qz .nil), .cons ru (.cons rz .nil) =>
    cases d <;> try exact f.elim
    rename_i p
    have f : FinV G W ι H σ (match dctAt h (.ref p) with
      | some kv => if keyFit kv.1 kd && decide (kv.1.length < sizeLine) then (match dgetK kv.1 kv.2 kd with
        | some v => .ok v h
        | none => .ok xd (h.set p (.dct (dput kv.1 kv.2 kd xd).1 (dput kv.1 kv.2 kd xd).2))) else .er
      | none => .er) Q := f
    split at f
    · rename_i kv ek
      split at f
      · rename_i kf
        rw [Bool.and_eq_true, decide_eq_true_eq] at kf
        obtain ⟨i, a, o, kvs, vvs, e0, rfl, hp, hi, h2, h3, h4, h5⟩ := dctAt_inv r q ek
        cases e0
        obtain rfl : v = .ref a := rx
        obtain ⟨gv, gg, tl⟩ := get_ok h2 h3 h4 h5 qy kf.1
        obtain ⟨-, -, -, -, -, g6, -⟩ := gg X pins σ0 s u g.hK g.hP g.hw g.rm.u64 I ru X.xe (EP X pins σ0 Q)
        cases e : dgetK kv.1 kv.2 kd with
        | some w0 =>
          rw [e] at f tl
          obtain ⟨z', rfl, rz'⟩ := tl
          exact g6 z' kf.2 rfl z zu rz fun w' s' I' rw' => ⟨z', H, I', rw', fin_same f r rz'⟩
        | none =>
          rw [e] at f
          have ll : kv.1.length ≤ kv.2.length := by
            rw [← h4.length, ← h5.length]
            cases h3 with
            | flat l => simp
            | nest xs => simp
          obtain ⟨o', kvs', vvs', pg, z', w1', w2'⟩ := put_all h2 h3 h4 h5 qy qz kf.1 kf.2
          refine pg.2 (dget_any g ll e) X pins σ0 s u zu g.hK g.hP g.hw g.rm.u64 I ru rz X.xe _ fun w' s' I' rw' => ⟨z, _, I', rw', ?_⟩
          exact fin_writeD f r hi z' (w1'.ext .refl) (w2'.ext .refl) qz
      · exact f.elim
    · exact f.elim
end
end Rx

/-! Rx0: d == {}; the greatest and the least of ints. -/
namespace PySem.W
open Lean Elab Tactic Meta PySem PySem.Calls PyProof.Rows PyProof.V PySem.Spec
section
variable {prog : Program} {w : World} {A : Around} {E : Value → Shared → Prop} {s : Shared} {a b : Addr} {oa ob : Obj} {es : Array DictEntry} {ep ep' : Nat}
theorem same0 {nm : String} {Q : Bool → Shared → Prop} (na : (a == sysModules) = false) (nb : (b == sysModules) = false) (ea : s.heap.get? a = some oa) (ka : oa.data = .dict es ep)
    (eb : s.heap.get? b = some ob) (kb : ob.data = .dict #[] ep') (q : Q (es.size == 0) s) : wpAny (model prog w) A (Builtin.Dict.samePairs nm a b) Q E s := by
  unfold Builtin.Dict.samePairs Builtin.Dict.showsAll
  rw [if_neg (show ¬ (a == sysModules) = true by rw [na]; exact Bool.false_ne_true), if_neg (show ¬ (b == sysModules) = true by rw [nb]; exact Bool.false_ne_true)]
  refine wpAny_bind (wpAny_pure (wpAny_bind (wpAny_pure (wpAny_bind (wpAny_dictEntries ea ka ?_)))))
  dsimp only
  refine wpAny_bind (wpAny_dictEntries eb kb ?_)
  by_cases z : es.size = 0
  · have z2 : (es.size != (#[] : Array DictEntry).size) = false := by simp [z]
    rw [if_neg (by rw [z2]; exact Bool.false_ne_true)]
    refine wpAny_bind (wpAny_dictEpoch ea ka (wpAny_bind ?_))
    rw [z] at q ⊢
    rw [Std.Legacy.Range.forIn_eq_forIn_range']
    show wpAny _ _ (pure _) _ _ _
    exact wpAny_pure (wpAny_pure q)
  · have z2 : (es.size != (#[] : Array DictEntry).size) = true := by simpa using z
    rw [if_pos z2]
    have z3 : (es.size == 0) = false := by simpa using z
    rw [z3] at q
    exact wpAny_bind (wpAny_rule (wpAny_pure q))
theorem eq0 {neg : Bool} {Q : Value → Shared → Prop} (na : (a == sysModules) = false) (nb : (b == sysModules) = false) (ea : s.heap.get? a = some oa) (xa : oa.ExactDict) (ka : oa.data = .dict es ep)
    (eb : s.heap.get? b = some ob) (xb : ob.ExactDict) (kb : ob.data = .dict #[] ep') (hu : A.units < cLine) (q : Q (.bool (if neg then !(es.size == 0) else es.size == 0)) s) :
    wpAny (model prog w) A (compareOp (if neg then .NotEq else .Eq) (.ref a) (.ref b)) Q E s := by
  have ta : s.TypeIs (.ref a) "dict" := ⟨oa, ea, xa.1⟩
  have tb : s.TypeIs (.ref b) "dict" := ⟨ob, eb, xb.1⟩
  cases neg with
  | false =>
    refine wpAny_richCompare_same_room (op := .Eq) ta tb PySem.F.slot_dict_eq (wpAny_call_entry PySem.F.slot_dict_eq ta PySem.F.entry_dict_eq ?_ (PySem.F.args_dict_eq_2 _ _)) hu
    show wpAny _ _ (Builtin.Dict.dictSlotArgs "__eq__" ⟨[.ref a, .ref b], []⟩ >>= _) _ _ s
    refine wpAny_bind ?_
    unfold Builtin.Dict.dictSlotArgs
    refine wpAny_bind (wpAny_notOrdered_dict ta ?_)
    show wpAny _ _ (pure (Value.ref a, Value.ref b)) _ _ s
    refine wpAny_pure (wpAny_bind (wpAny_isInstance (T := "dict") tb PySem.F.sub_dict_dict ?_))
    simp only [Bool.not_true, Bool.false_eq_true, if_false]
    refine wpAny_bind (wpAny_pure (wpAny_bind (wpAny_pure (wpAny_bind (same0 na nb ea ka eb kb (wpAny_pure ⟨_, rfl, (fun x => nomatch x), ?_⟩))))))
    simpa using q
  | true =>
    refine wpAny_richCompare_same_room (op := .NotEq) ta tb PySem.F.slot_dict_ne (wpAny_call_entry PySem.F.slot_dict_ne ta PySem.F.entry_dict_ne ?_ (PySem.F.args_dict_ne_2 _ _)) hu
    show wpAny _ _ (Builtin.Dict.dictSlotArgs "__ne__" ⟨[.ref a, .ref b], []⟩ >>= _) _ _ s
    refine wpAny_bind ?_
    unfold Builtin.Dict.dictSlotArgs
    refine wpAny_bind (wpAny_notOrdered_dict ta ?_)
    show wpAny _ _ (pure (Value.ref a, Value.ref b)) _ _ s
    refine wpAny_pure (wpAny_bind (wpAny_isInstance (T := "dict") tb PySem.F.sub_dict_dict ?_))
    simp only [Bool.not_true, Bool.false_eq_true, if_false]
    refine wpAny_bind (wpAny_pure (wpAny_bind (wpAny_pure (wpAny_bind (same0 na nb ea ka eb kb (wpAny_pure ⟨_, rfl, (fun x => nomatch x), ?_⟩))))))
    simpa using q
end
end PySem.W
namespace Rx
open PySem L2
variable {G : Gx} {W : WX} {cl : Cl} {k : Nat} {N : List Str} {sc : Scope} {st st' : List Str} {X : Cx}
variable {ι ι' : List Addr} {H H' : Hp} {h h' : Hq} {ρ : Ev} {σ σ' : MSt} {v : V} {d : D} {a : Addr}
variable {pins : List (Addr × Obj)} {s : Shared}
theorem flat_raw {l : List (Key × V)} (I : Inv X pins σ H s) (ho : H a = some (.dK l)) : (a == sysModules) = false ∧ ∃ ob es ep, s.heap.get? a = some ob ∧ ob.ExactDict ∧ ob.data = .dict es ep ∧ es.size = l.length := by
  obtain ⟨_, y, vs, r, o, es, ep, e1, e2, e3, _, e5, _⟩ := (show ObjOk X.prog X.w H s.heap a (.dK l) from I.hok a _ ho)
  exact ⟨y, o, es, ep, e1, e2, e3, by rw [r.length, ← e5.length]; simp⟩
theorem do_raw {o : HO} {ks vs : List V} {ds : List D} (hP : X.prog = G.P) (hw : X.w = G.w) (I : Inv X pins σ H s) (ho : H a = some o) (q : DO G a o ks vs ds) :
    (a == sysModules) = false ∧ ∃ ob es ep, s.heap.get? a = some ob ∧ ob.ExactDict ∧ ob.data = .dict es ep ∧ es.size = ks.length := by
  cases q with
  | flat l =>
    rw [List.length_map]
    exact flat_raw I ho
  | nest xs =>
    obtain ⟨⟨hs, ys, rel, ob, es, ep, h1, h2, h3, h4, _⟩, -⟩ := I.hok a _ ho
    exact ⟨hs, ob, es, ep, h1, h2, h3, by rw [List.length_map, rel.len, ← Array.length_toList, h4, List.length_map]⟩
def rE0 (G : Gx) (neg : Bool) : R2 := fun x y H Q => ∃ a b o ks vs ds, x = .ref a ∧ y = .ref b ∧ H a = some o ∧ DO G a o ks vs ds ∧ H b = some (.dK []) ∧ Q (.bl (if neg then !(ks.length == 0) else ks.length == 0)) H
theorem op_e0 (g : Gd G W k N sc st X) (neg : Bool) : OpR X (compareOp (if neg then .NotEq else .Eq)) (rE0 G neg) := by
  intro pins s σ H x y v u Q I rx ry q
  obtain ⟨a, b, o, ks, vs, ds, rfl, rfl, e1, e2, e3, q⟩ := q
  obtain rfl : v = Value.ref a := rx
  obtain rfl : u = Value.ref b := ry
  obtain ⟨na, oa, es, ep, a1, a2, a3, a4⟩ := do_raw g.hP g.hw I e1 e2
  obtain ⟨nb, ob, es', ep', b1, b2, b3, b4⟩ := flat_raw I e3
  have : es' = #[] := Array.eq_empty_of_size_eq_zero b4
  subst this
  refine PySem.W.eq0 na nb a1 a2 a3 b1 b2 b3 (Nat.lt_of_le_of_lt (Nat.le_add_right _ _) g.rm.u64) ?_
  rw [a4]
  exact ⟨_, H, I, by cases neg <;> rfl, q⟩
theorem x_isE {x : Expr} {ix : E} {neg : Bool} {p pos : Pos} (g : Gd G W k N sc st X) (hx : PE X x (tE G W cl ix)) :
    PE X (.Compare x [if neg then .NotEq else .Eq] [.Dict [] [] p] pos) (tE G W cl (.isE neg ix)) ∧ PT X (.Compare x [if neg then .NotEq else .Eq] [.Dict [] [] p] pos) (tT G W cl (.isE neg ix)) := by
  have nm : behindInMarks (if neg then CmpOp.NotEq else CmpOp.Eq) (.Dict [] [] p) = false := by cases neg <;> exact nomark _
  have key : ∀ {σ H ι ρ h} {Q : VK}, ER G ι H ρ σ → HR G ι h H → FinV G W ι H σ (evE cl (.isE neg ix) ρ h) Q → tE G W cl ix σ H fun v1 H1 => ∀ p, H1 p = none → rE0 G neg v1 (.ref p) (upd H1 p (.dK [])) Q := by
    intro σ H ι ρ h Q er hr f
    refine ⟨ι, ρ, h, er, hr, (FinV.bind f).imp ?_⟩
    rintro v1 H1 ⟨ι1, d1, h1, e1, r1, q1, -, f1⟩ p np
    split at f1
    · rename_i ks ws ev
      have x2 := Ext.laid (u := .dK []) r1 np
      obtain ⟨a, o, kvs, vvs, rfl, ho, dd, wk, -⟩ := view_dct (r1.laid np) (q1.ext x2) ev
      refine ⟨a, p, o, kvs, vvs, ks, rfl, rfl, ho, dd, upd_same, ?_⟩
      have l : (kvs.length == 0) = ks.isEmpty := by rw [wk.length]; cases ks <;> rfl
      rw [l]
      exact f1 ι1 _ _ x2 (r1.laid np) (.bl _)
    · exact f1.elim
  refine ⟨PE.of (pe_cmpR (op_e0 g neg) hx pe_dnewK nm) ?_, PT.of (pt_cmpR (op_e0 g neg) hx pe_dnewK nm) ?_⟩
  · rintro σ H Q ⟨ι, ρ, h, er, hr, f⟩
    exact key er hr f
  · rintro σ H Q ⟨ι, ρ, h, er, hr, f⟩
    refine key er hr ?_
    have f : FinB G W ι H σ ((evE cl (.isE neg ix) ρ h).bind fun d h => R.of (tru h d) h) Q := f
    cases e : evE cl (.isE neg ix) ρ h with
    | er => rw [e] at f; exact f.elim
    | xc => rw [e] at f; exact f
    | ok d2 h2 =>
      rw [e] at f
      have isb : ∃ b, d2 = .bl b := by
        have e : (evE cl ix ρ h).bind (fun x h1 => match view h1 x with
          | .dct ks _ => .ok (.bl (if neg then !ks.isEmpty else ks.isEmpty)) h1
          | _ => .er) = .ok d2 h2 := e
        cases e3 : evE cl ix ρ h with
        | ok d3 h3 =>
          rw [e3] at e
          have e : (match view h3 d3 with
            | .dct ks _ => R.ok (D.bl (if neg then !ks.isEmpty else ks.isEmpty)) h3
            | _ => .er) = .ok d2 h2 := e
          split at e
          · cases e; exact ⟨_, rfl⟩
          · cases e
        | er => rw [e3] at e; cases e
        | xc => rw [e3] at e; cases e
      obtain ⟨b, rfl⟩ := isb
      intro ι' H' v' x r q
      rw [q.blD]
      exact ⟨b, rfl, f ι' H' x r⟩
/-! ### max, min of a list of ints -/
theorem foldl_max : ∀ (l : List Int) (a : Int), l.foldl max a ∈ a :: l ∧ ∀ y ∈ a :: l, y ≤ l.foldl max a
  | [], a => ⟨by simp, by simp⟩
  | b :: l, a => by
    obtain ⟨h1, h2⟩ := foldl_max l (max a b)
    refine ⟨?_, fun y m => ?_⟩
    · rw [List.foldl_cons]
      rcases List.mem_cons.mp h1 with h | h
      · rw [h]
        rcases Int.le_total a b with z | z
        · rw [Int.max_eq_right z]; simp
        · rw [Int.max_eq_left z]; simp
      · simp [h]
    · rw [List.foldl_cons]
      have h3 := h2 (max a b) (List.mem_cons_self ..)
      rcases List.mem_cons.mp m with rfl | m
      · omega
      · rcases List.mem_cons.mp m with rfl | m
        · omega
        · exact h2 y (List.mem_cons_of_mem _ m)
theorem foldl_min : ∀ (l : List Int) (a : Int), l.foldl min a ∈ a :: l ∧ ∀ y ∈ a :: l, l.foldl min a ≤ y
  | [], a => ⟨by simp, by simp⟩
  | b :: l, a => by
    obtain ⟨h1, h2⟩ := foldl_min l (min a b)
    refine ⟨?_, fun y m => ?_⟩
    · rw [List.foldl_cons]
      rcases List.mem_cons.mp h1 with h | h
      · rw [h]
        rcases Int.le_total a b with z | z
        · rw [Int.min_eq_left z]; simp
        · rw [Int.min_eq_right z]; simp
      · simp [h]
    · rw [List.foldl_cons]
      have h3 := h2 (min a b) (List.mem_cons_self ..)
      rcases List.mem_cons.mp m with rfl | m
      · omega
      · rcases List.mem_cons.mp m with rfl | m
        · omega
        · exact h2 y (List.mem_cons_of_mem _ m)
theorem c_max1 (g : Gd G W k N sc st X) : CallR X (.builtin "max") (rC1 G W fun h d => b1D h .max d) := by
  refine CallR.im (cr_max g.calm) ?_
  rintro xs H Q ⟨x, rfl, ι, h, d, σ, r, q, f⟩
  have f : FinV G W ι H σ (match view h d with
    | .lst xs => (match allI xs with
      | some (n :: ns) => .ok (.int (ns.foldl max n)) h
      | _ => .er)
    | _ => .er) Q := f
  split at f
  · rename_i ev
    obtain ⟨a, vs, rfl, t, w⟩ := view_lst r q ev
    split at f
    · rename_i n ns e
      have := allI_inv (vs := vs) w e
      subst this
      refine ⟨a, n :: ns, rfl, by rw [g.hK]; exact t, by simp, fun m hm hy => ?_⟩
      obtain ⟨h1, h2⟩ := foldl_max ns n
      have : m = ns.foldl max n := Int.le_antisymm (h2 m hm) (hy _ h1)
      subst this
      exact fin_same f r (.int _)
    · exact f.elim
  · exact f.elim
theorem c_min1 (g : Gd G W k N sc st X) : CallR X (.builtin "min") (rC1 G W fun h d => b1D h .min d) := by
  refine CallR.im (cr_min g.calm) ?_
  rintro xs H Q ⟨x, rfl, ι, h, d, σ, r, q, f⟩
  have f : FinV G W ι H σ (match view h d with
    | .lst xs => (match allI xs with
      | some (n :: ns) => .ok (.int (ns.foldl min n)) h
      | _ => .er)
    | _ => .er) Q := f
  split at f
  · rename_i ev
    obtain ⟨a, vs, rfl, t, w⟩ := view_lst r q ev
    split at f
    · rename_i n ns e
      have := allI_inv (vs := vs) w e
      subst this
      refine ⟨a, n :: ns, rfl, by rw [g.hK]; exact t, by simp, fun m hm hy => ?_⟩
      obtain ⟨h1, h2⟩ := foldl_min ns n
      have : m = ns.foldl min n := Int.le_antisymm (hy _ h1) (h2 m hm)
      subst this
      exact fin_same f r (.int _)
    · exact f.elim
  · exact f.elim
end Rx

/-! Rx1: zip of two lists, of two tuples. -/
namespace Rx
open PySem L2 RZ
variable {G : Gx} {W : WX} {cl : Cl} {k : Nat} {N : List Str} {sc : Scope} {st st' : List Str} {X : Cx}
variable {ι ι' : List Addr} {H H' : Hp} {h h' : Hq} {ρ : Ev} {σ σ' : MSt} {v : V} {d : D} {a b : Addr}
/-- what zip walks over -/
def zipR (h : Hq) : D → D → R (Src × List D)
  | .tup xs, .tup ys => .ok (none, zipD xs ys) h
  | .lst xs, .lst ys => .ok (none, zipD xs ys) h
  | _, _ => .er
theorem zip_ev {ea eb : E} : evIt cl (.zip ea eb) ρ h = (evEs cl (.cons ea (.cons eb .nil)) ρ h).bind fun ds h2 => match ds with
    | [x, y] => zipR h2 x y
    | _ => .er := by
  rw [evIt, evEs]
  cases evE cl ea ρ h with
  | xc => rfl
  | er => rfl
  | ok x h1 =>
    rw [R.bind_ok, R.bind_ok, evEs]
    cases evE cl eb ρ h1 with
    | xc => rfl
    | er => rfl
    | ok y h2 =>
      rw [R.bind_ok, R.bind_ok, evEs, R.bind_ok, R.bind_ok]
      show _ = zipR h2 x y
      unfold zipR
      cases x <;> cases y <;> rfl
theorem zipD_get {xs ys : List D} {i : Nat} {d : D} (e : (zipD xs ys)[i]? = some d) : ∃ x y, xs[i]? = some x ∧ ys[i]? = some y ∧ d = .tup [x, y] := by
  unfold zipD at e
  rw [List.getElem?_zipWith] at e
  cases h1 : xs[i]? with
  | none => rw [h1] at e; cases e
  | some x =>
    cases h2 : ys[i]? with
    | none => rw [h1, h2] at e; cases e
    | some y =>
      rw [h1, h2] at e
      cases e
      exact ⟨x, y, rfl, rfl, rfl⟩
theorem zip_len (xs ys : List D) : xs.length ≤ (zipD xs ys).length ∨ ys.length ≤ (zipD xs ys).length := by
  unfold zipD
  rw [List.length_zipWith]
  omega
theorem serves_zipL {xs ys : List D} (t1 : Stay G (fun H' vs => SqL G.K H' a vs) ι H none xs) (t2 : Stay G (fun H' vs => SqL G.K H' b vs) ι H none ys) : Serves G (Itz G.K a b) ι H none (zipD xs ys) where
  stop := fun rs ι' H' h' z x r u => by
    obtain ⟨vs, h1, h2⟩ := t1 rs ι' H' h' z x r u
    obtain ⟨us, h3, h4⟩ := t2 rs ι' H' h' z x r u
    exact ⟨vs, us, h1, h3, by rw [h2.length, h4.length]; exact zip_len xs ys⟩
  go := fun i d rs ι' H' h' z x r u e => by
    obtain ⟨vs, h1, h2⟩ := t1 rs ι' H' h' z x r u
    obtain ⟨us, h3, h4⟩ := t2 rs ι' H' h' z x r u
    obtain ⟨dx, dy, e1, e2, -⟩ := zipD_get e
    obtain ⟨v, h5, -⟩ := h2.get e1
    obtain ⟨w, h6, -⟩ := h4.get e2
    exact ⟨vs, us, v, w, h1, h3, h5, h6⟩
  item := fun i d rs ι' H' h' v H2 z x r u e y => by
    obtain ⟨vs, h1, h2⟩ := t1 rs ι' H' h' z x r u
    obtain ⟨us, h3, h4⟩ := t2 rs ι' H' h' z x r u
    obtain ⟨dx, dy, e1, e2, rfl⟩ := zipD_get e
    obtain ⟨w1, h5, q1⟩ := h2.get e1
    obtain ⟨w2, h6, q2⟩ := h4.get e2
    obtain ⟨T, y1, y2, rfl, np, rfl, z1, z2⟩ := y
    have a1 := z1 vs h1
    have a2 := z2 us h3
    rw [h5] at a1; cases a1
    rw [h6] at a2; cases a2
    exact ⟨Ext.laid r np, r.laid np, .tup (.inl ⟨r.out np, .inl upd_same⟩) (.cons (q1.ext (Ext.laid r np)) (.cons (q2.ext (Ext.laid r np)) .nil)), fun b m => upd_ne fun eb => r.nrs np (eb ▸ List.mem_append_left _ m)⟩
theorem serves_zipT {xs ys : List D} (t1 : Stay G (fun H' vs => SqT G.K H' a vs) ι H none xs) (t2 : Stay G (fun H' vs => SqT G.K H' b vs) ι H none ys) : Serves G (ItzT G.K a b) ι H none (zipD xs ys) where
  stop := fun rs ι' H' h' z x r u => by
    obtain ⟨vs, h1, h2⟩ := t1 rs ι' H' h' z x r u
    obtain ⟨us, h3, h4⟩ := t2 rs ι' H' h' z x r u
    exact ⟨vs, us, h1, h3, by rw [h2.length, h4.length]; exact zip_len xs ys⟩
  go := fun i d rs ι' H' h' z x r u e => by
    obtain ⟨vs, h1, h2⟩ := t1 rs ι' H' h' z x r u
    obtain ⟨us, h3, h4⟩ := t2 rs ι' H' h' z x r u
    obtain ⟨dx, dy, e1, e2, -⟩ := zipD_get e
    obtain ⟨v, h5, -⟩ := h2.get e1
    obtain ⟨w, h6, -⟩ := h4.get e2
    exact ⟨vs, us, v, w, h1, h3, h5, h6⟩
  item := fun i d rs ι' H' h' v H2 z x r u e y => by
    obtain ⟨vs, h1, h2⟩ := t1 rs ι' H' h' z x r u
    obtain ⟨us, h3, h4⟩ := t2 rs ι' H' h' z x r u
    obtain ⟨dx, dy, e1, e2, rfl⟩ := zipD_get e
    obtain ⟨w1, h5, q1⟩ := h2.get e1
    obtain ⟨w2, h6, q2⟩ := h4.get e2
    obtain ⟨T, y1, y2, rfl, np, rfl, z1, z2⟩ := y
    have a1 := z1 vs h1
    have a2 := z2 us h3
    rw [h5] at a1; cases a1
    rw [h6] at a2; cases a2
    exact ⟨Ext.laid r np, r.laid np, .tup (.inl ⟨r.out np, .inl upd_same⟩) (.cons (q1.ext (Ext.laid r np)) (.cons (q2.ext (Ext.laid r np)) .nil)), fun b m => upd_ne fun eb => r.nrs np (eb ▸ List.mem_append_left _ m)⟩
theorem stay_tup {xs : List D} (q : VR G ι H v (.tup xs)) : ∃ a, v = .ref a ∧ Stay G (fun H' vs => SqT G.K H' a vs) ι H none xs := by
  cases q with
  | tup tq qs => exact ⟨_, rfl, fun rs ι' H' h' z x _ _ => ⟨_, (tq.ext x).sq, (qs.ad z).ext x⟩⟩
theorem stay_lst {xs : List D} (q : VR G ι H v (.lst xs)) : ∃ a, v = .ref a ∧ Stay G (fun H' vs => SqL G.K H' a vs) ι H none xs := by
  cases q with
  | lst n q qs => exact ⟨_, rfl, fun rs ι' H' h' z x _ _ => ⟨_, .inl (.inl (x.keep _ _ q n.1)), (qs.ad z).ext x⟩⟩
theorem x_zip {elts : List Expr} {kk : Nat} {e e2 : Expr} {ie ie2 : E} {p pos tpos : Pos} (g : Gd G W k N sc st X) (hg : Gl X "zip") (hm : X.mg "zip" = none) (he : PE X e (tE G W cl ie)) (he2 : PE X e2 (tE G W cl ie2)) (pl : plainE e = true) (pl2 : plainE e2 = true) :
    PI X (.Tuple elts kk tpos) (.Call (.Name "zip" p) [e, e2] [] pos) (tI G W cl (.zip ie ie2)) := by
  have ps : (backTo pos (starEach [e2] X.env)).any (·.1) = false := by rw [star_cons pl2]; rfl
  refine PI.of (pi_zipA hg hm (x_cons he (x_cons he2 x_nil pl2) pl) (star_cons pl) ps) ?_
  rintro σ H Q ⟨ι, ρ, q, er, rq, f⟩
  rw [zip_ev] at f
  refine ⟨ι, ρ, q, er, rq, (FinL.bindI f).imp ?_⟩
  rintro vs H1 ⟨ι1, ds, h1, e1, r1, q1, -, f1⟩
  match ds, vs, q1 with
  | [x, y], [v1, v2], .cons q1 (.cons q2 .nil) =>
    have f1 : FinI G W ι1 H1 σ (zipR h1 x y) Q := f1
    unfold zipR at f1
    split at f1
    · obtain ⟨a, rfl, t1⟩ := stay_tup q1
      obtain ⟨b, rfl, t2⟩ := stay_tup q2
      obtain ⟨us, u1, -⟩ := t1 [] ι1 H1 h1 (fun _ m => nomatch m) .refl r1 rfl
      obtain ⟨ws, u2, -⟩ := t2 [] ι1 H1 h1 (fun _ m => nomatch m) .refl r1 rfl
      rw [g.hK]
      exact ⟨a, b, us, ws, rfl, .inr ⟨u1, u2, f1 ι1 H1 _ .refl r1 (serves_zipT t1 t2)⟩⟩
    · obtain ⟨a, rfl, t1⟩ := stay_lst q1
      obtain ⟨b, rfl, t2⟩ := stay_lst q2
      obtain ⟨us, u1, -⟩ := t1 [] ι1 H1 h1 (fun _ m => nomatch m) .refl r1 rfl
      obtain ⟨ws, u2, -⟩ := t2 [] ι1 H1 h1 (fun _ m => nomatch m) .refl r1 rfl
      rw [g.hK]
      exact ⟨a, b, us, ws, rfl, .inl ⟨u1, u2, f1 ι1 H1 _ .refl r1 (serves_zipL t1 t2)⟩⟩
    · exact f1.elim
  | [], _, _ => exact f1.elim
  | [_], _, _ => exact f1.elim
  | _ :: _ :: _ :: _, _, _ => exact f1.elim
end Rx

/-! Rx3: sorted(a list of tuples, key=len). -/
namespace Rx
open PySem L2
open PyProof.Rows (IsTup)
variable {G : Gx} {W : WX} {cl : Cl} {k : Nat} {N : List Str} {sc : Scope} {st st' : List Str} {X : Cx}
variable {ι ι' : List Addr} {H H' : Hp} {h h' : Hq} {ρ : Ev} {σ σ' : MSt} {v : V} {d : D} {a b : Addr}
variable {pins : List (Addr × Obj)} {s : Shared}
theorem klen_alike (xs : List D) : PySem.W.AllAlike (xs.map klen) := by
  intro x hx y hy
  obtain ⟨a, -, rfl⟩ := List.mem_map.mp hx
  obtain ⟨b, -, rfl⟩ := List.mem_map.mp hy
  unfold klen
  simp [PySem.W.alike]
/-- what an item is: a tuple there, so many items -/
def RL (G : Gx) (ι : List Addr) (H : Hp) (h0 : Heap) (u : Value) (d : D) : Prop := RI G ι H u d ∧ ∃ (t : Addr) (its : Array Value), u = .ref t ∧ IsTup h0 t its ∧ its.size ≤ sizeLine ∧ klen d = .int its.size
theorem each_len (hK : X.K = G.K) (I : Inv X pins σ H s) : ∀ {us : List Value} {ds : List D}, ds.all isTup = true → PySem.W.EachIs (RI G ι H) us ds → PySem.W.EachIs (RL G ι H s.heap) us ds
  | _, _, _, .nil => .nil
  | u :: us, d :: ds, p, .cons ⟨v, r, q⟩ t => by
    rw [List.all_cons, Bool.and_eq_true] at p
    refine .cons ⟨⟨v, r, q⟩, ?_⟩ (each_len hK I p.2 t)
    cases d with
    | tup xs =>
      cases q with
      | tup tq qs =>
        cases r
        obtain ⟨its, rv, pl, hz⟩ := I.tuple (by rw [hK]; exact tq.sq)
        refine ⟨_, its.toArray, rfl, pl, ?_, ?_⟩
        · rw [List.size_toArray, ← rv.length]; exact hz
        · show PyData.int (xs.length : Nat) = _
          rw [List.size_toArray, ← rv.length, qs.length]
    | _ => exact absurd p.1 (by simp [isTup])
theorem sortL_call (hK : X.K = G.K) (u64 : X.A.units + 64 < cLine) (I : Inv X pins σ H s) {xs : List D} {vs : List V} (t : SqL X.K H a vs) (w : VRs G ι H vs xs) (ok : slOk xs = true) {Q : VK} {E : Value → Shared → Prop}
    (q : ∀ ys p, H p = none → VRs G ι H ys (slsort xs) → Q (.ref p) (upd H p (.lst ys))) : wpAny (model X.prog X.w) X.A (call (.builtin "sorted") [.ref a] [(Str.ofString "key", .builtin "len")]) (fun u s' => ∃ v H', Inv X pins σ H' s' ∧ RelV v u ∧ Q v H') E s := by
  unfold slOk at ok
  rw [Bool.and_eq_true, decide_eq_true_eq] at ok
  obtain ⟨its, rv, hl, hz⟩ := I.list t
  have e := each_len hK I ok.1 (each_of (by simpa using rv) w)
  have hL : xs.length ≤ sizeLine := by rw [sizeLine_eq]; omega
  have so : PySem.W.Sortable (xs.map klen) := .inr fun d hd => by
    obtain ⟨x, -, rfl⟩ := List.mem_map.mp hd
    unfold klen
    exact ⟨fun z => (by cases z), fun _ z => (by cases z)⟩
  refine PySem.W.sorted_key_data (b := false) klen hl.isList e (klen_alike xs) so hL (fun x _ => ?_) (PyProof.Rows.ksk_s1 _ _) (fun _ => PyProof.Rows.ksk_l1 _ _) (fun _ => PyProof.Rows.ksk_t4 _ _) (fun u x hx _ h tk kp => ?_) fun out c h' tk kp _ hD ho eo => ?_
  · show X.A.units + 2 + 0 < cLine
    omega
  · obtain ⟨-, t, its', rfl, pt, ps, pk⟩ := hx
    have fit : (its'.size : Int) < 2 ^ 63 := by rw [sizeLine_eq] at ps; omega
    obtain ⟨o, ho, r⟩ := pt
    refine PyProof.Rows.len_tuple (s := { s with heap := h, toks := tk }) ⟨o, kp _ _ ho, r⟩ fit ⟨_, _, rfl, fun _ _ z => z, ?_⟩
    rw [pk]; exact .int _ _
  · obtain ⟨ys, y1, y2⟩ := of_each (eo.mono fun _ _ z => z.1)
    have hlen : ys.length ≤ sizeLine := by rw [y1.length, ho]; exact hL
    exact ⟨.ref _, upd H (s.heap.objs.size + 1) (.lst ys), I.laid (t' := tk) kp (Nat.le_succ _) ⟨hlen, out, c, y1, hD⟩, rfl, q ys _ (I.hok.fresh (Nat.le_succ _)) y2⟩
theorem x_slen {y : Expr} {iy : E} {p p3 kp pos : Pos} (g : Gd G W k N sc st X) (g1 : Gl X "sorted") (m1 : X.mg "sorted" = none) (g2 : Gl X "len") (m2 : X.mg "len" = none) (hy : PE X y (tE G W cl iy)) (pl : plainE y = true) :
    PE X (.Call (.Name "sorted" p) [y] [⟨some "key", .Name "len" p3, kp⟩] pos) (tE G W cl (.b1 .slen iy)) := by
  constructor
  intro pins s σ H Q I ⟨ι, ρ, q, er, hr, f⟩
  refine wpAny_Call_Name_kw (ld_blt I g1 m1 PyProof.Rows.boot_sorted ?_ (by decide) (by decide))
  have f : FinV G W ι H σ ((evE cl iy ρ q).bind fun x h1 => b1D h1 .slen x) Q := f
  have ps : (backTo pos (starEach [y] X.env)).any (·.1) = false := by rw [star_cons pl]; rfl
  have se : backTo pos (starEach [y] X.env) = (false, eval y X.env) :: backTo pos (starEach [] X.env) := by rw [star_cons pl]; rfl
  refine PyProof.Rows.callWith_kw ?_ se ps rfl rfl
  refine thn ((x_cons hy x_nil pl : PA X [y] (tEs G W cl (.cons iy .nil))).run pos pins s σ H (fun vs H1 => ∃ ι1 d1 h1, HR G ι1 h1 H1 ∧ VRs G ι1 H1 vs [d1] ∧ FinV G W ι1 H1 σ (b1D h1 .slen d1) Q) I ⟨ι, ρ, q, er, hr, ?_⟩) fun us s1 ⟨vs, H1, I1, r1, ι1, d1, h1, hr1, w1, f1⟩ => ?_
  · rw [evEs]
    cases e : evE cl iy ρ q with
    | er => rw [e] at f; exact f.elim
    | xc => rw [e] at f; exact f
    | ok d1 h1 =>
      rw [e] at f
      rw [R.bind_ok, evEs, R.bind_ok]
      intro ι1 H1 vs x1 r1 w1
      refine ⟨ι1, d1, h1, r1, w1, ?_⟩
      rw [R.bind_ok] at f
      cases z : b1D h1 .slen d1 with
      | er => rw [z] at f; exact f.elim
      | xc => rw [z] at f; exact fun ι2 H2 c dd e2 r2 q2 => f ι2 H2 c dd (x1.trans e2) r2 q2
      | ok d2 h2 => rw [z] at f; exact fun ι2 H2 v2 e2 r2 q2 => f ι2 H2 v2 (x1.trans e2) r2 q2
  · match vs, w1 with
    | [v], .cons q1 .nil =>
      refine PyProof.Rows.kws_cons (ld_blt I1 g2 m2 boot_len (PyProof.Rows.kws_nil ?_) (by decide) (by decide))
      have f1 : FinV G W ι1 H1 σ (match view h1 d1 with
        | .lst xs => if slOk xs then .ok (.lst (slsort xs)) h1 else .er
        | _ => .er) Q := f1
      split at f1
      · rename_i xs ev
        obtain ⟨a, ws, rfl, t, w⟩ := view_lst hr1 q1 ev
        split at f1
        · rename_i ok
          rw [Vals.ref1 r1]
          show wpAny _ _ (call (.builtin "sorted") [.ref a] [(Str.ofString "key", .builtin "len")]) _ _ _
          exact sortL_call g.hK g.rm.u64 I1 (by rw [g.hK]; exact t) w ok fun ys p np q => fin_lst f1 hr1 q np
        · exact f1.elim
      · exact f1.elim
end Rx

/-! RxY: exceptions of the program's own: made, raised, caught. -/
namespace Rx
open PySem L2
open PyProof.Rows (envOfC)
variable {G : Gx} {W : WX} {cl : Cl} {k : Nat} {N : List Str} {sc : Scope} {st st' : List Str} {X : Cx}
variable {ι ι' : List Addr} {H H' : Hp} {h h' : Hq} {ρ : Ev} {σ σ' : MSt} {v : V} {d : D} {a : Addr}

/-! ### the class's own __init__ -/
/-- a part of the message: a text, the parameter -/
def msgPart (x : Str) : Expr → Bool
  | .Constant (.str t) _ _ => decide (t.length ≤ 1000)
  | .FormattedValue (.Name y _) f none _ => decide (y = x) && decide (f = -1)
  | _ => false
/-- def __init__(self, x): ValueError.__init__(self, f'..'); self.f = x -/
def initShape (self x f : Str) (b : List Stmt) : Bool := match b with
  | [.Expr (.Call (.Attribute (.Name b1 _) i1 p2) [.Name s1 _, .JoinedStr (m1 :: m2 :: ms) _] [] p5) _, .Assign [.Attribute (.Name s2 _) g _] (.Name y _) _] =>
    decide (b1 = "ValueError") && decide (i1 = "__init__") && decide (s1 = self) && decide (s2 = self) && decide (g = f) && decide (y = x) && (m1 :: m2 :: ms).all (msgPart x) && decide ((m1 :: m2 :: ms).length ≤ 10) && (p2.endLine == p5.line)
  | _ => false
def initScope (self x : Str) (sc : Scope) : Bool :=
  decide (sc.kind = .function) && decide (sc.isCoroutine = false) && decide (sc.isGenerator = false) && decide (self ≠ x) && decide (sc.names.lookup self = some .local) && decide (sc.names.lookup x = some .local)
    && sc.names.all (fun y => decide (y.2 ≠ .free)) && decide (sc.names.lookup ("ValueError" : Str) = some .globalImplicit) && !(self == ("__debug__" : Str)) && !(self == ("__classdict__" : Str)) && !(x == ("__debug__" : Str)) && !(x == ("__classdict__" : Str))
/-- what it promises -/
def spXi (G : Gx) (f : Str) : Sp := fun vs H Q _ => ∃ a C i, vs = [.ref a, .int i] ∧ i.natAbs.log2 < 1920 ∧ OexC G.K C ∧ PySem.W.findIn G.K (.ref C) f = some none ∧ H a = some (exo a C none) ∧
  ∀ d, H d = none → d ≠ a → Q .non (upd (upd H d (exd d [(f, .int i)])) a (exo a C (some d)))
theorem msg_run {x : Str} {i : Int} (hi : i.natAbs.log2 < 1920) {j : Nat} (hx : X.N[j]? = some x) (hv : Vis X.env.scope x) (hd : (x == ("__debug__" : Str)) = false) (hc : (x == ("__classdict__" : Str)) = false) :
    ∀ es : List Expr, es.all (msgPart x) = true → ∃ ts, PJ X es ts ∧ ∀ (acc : Str) (σ : MSt) (H : Hp) (Q : Str → Hp → Prop), σ[j]? = some (some (.int i)) → acc.length + es.length * 100000 ≤ sizeLine → (∀ out, Q out H) → tJs ts acc σ H Q
  | [], _ => ⟨[], .nil, fun acc σ H Q _ _ q => q acc⟩
  | e :: es, p => by
    rw [List.all_cons, Bool.and_eq_true] at p
    obtain ⟨ts, h1, h2⟩ := msg_run hi hx hv hd hc es p.2
    have p1 := p.1
    unfold msgPart at p1
    split at p1
    · rename_i t jj pp
      rw [decide_eq_true_eq] at p1
      refine ⟨_, .cons pe_str h1, fun acc σ H Q hs l q => ⟨t, rfl, ?_, h2 _ _ _ _ hs ?_ q⟩⟩
      · rw [List.length_cons, Nat.add_mul] at l
        show (acc.cps ++ t.cps).size ≤ _
        rw [Array.size_append]
        have e1 : acc.cps.size = acc.length := rfl
        have e2 : t.cps.size = t.length := rfl
        omega
      · rw [List.length_cons, Nat.add_mul] at l
        show (acc.cps ++ t.cps).size + _ ≤ _
        rw [Array.size_append]
        have e1 : acc.cps.size = acc.length := rfl
        have e2 : t.cps.size = t.length := rfl
        omega
    · rename_i y pp ff p3
      rw [Bool.and_eq_true, decide_eq_true_eq, decide_eq_true_eq] at p1
      obtain ⟨rfl, rfl⟩ := p1
      refine ⟨_, .cons (pe_fmt (pe_var hx hv hd hc)) h1, fun acc σ H Q hs l q => ⟨.int i, hs, .inr ⟨i, rfl, hi, toString i, rfl, ?_, h2 _ _ _ _ hs ?_ q⟩⟩⟩
      all_goals
        rw [List.length_cons, Nat.add_mul] at l
        have e3 : (acc ++ (toString i : Str)).length = acc.length + (toString i : Str).length := by
          show (acc.cps ++ (toString i : Str).cps).size = _
          rw [Array.size_append]; rfl
        have e4 : (toString i : Str).length ≤ 1921 := by
          show (Str.ofString (toString i)).length ≤ 1921
          rw [ofString_length]; exact int_text_length_le (by decide) hi
        omega
    · cases p1
theorem ve_hc {b m s : Str} {l : List Expr} {p1 p2 p3 p4 p5 : Pos} {env : Env} (hl : (p2.endLine == p5.line) = true) : eval (.Call (.Attribute (.Name b p1) m p2) [.Name s p3, .JoinedStr l p4] [] p5) env = (do
    let ov ← eval (.Name b p1) env
    standAt p2.atName
    let (f, first) ← holding [ov] (getMethod ov m (plainOf (.Name b p1) env))
    callWith p5 f first (backTo p5 (starEach [.Name s p3, .JoinedStr l p4] env)) (backToKw p5 (keywordEach [] env))) := by
  rw [arm_eval_Call]
  show (eval (.Name b p1) env >>= fun ov => standAt p2.atName >>= fun _ => methodCall (.Name b p1) m p2 p5 env ov _ _ _) = _
  congr 1
  funext ov
  congr 1
  funext _
  exact mcall_line rfl hl
theorem init_fn {fI : Addr} {self x f name qual : Str} {params : Arguments} {body : List Stmt} {scope : Scope} {dV kV doc pm cdv ct oc : Value} {an od : Option Addr} {osl : Array (Option Value)}
    (lk : G.K.lookup fI = some ⟨oc, od, .func (PySem.W.fnOf name qual params body scope dV kV doc pm an cdv ct), osl⟩) (hcd : PySem.W.codeIn G.K cdv qual = true) (sh : initShape self x f body = true) (ss : initScope self x scope = true)
    (vV : G.mg "ValueError" = none) (vI : PySem.W.findCls G.K (.type "ValueError") (.type "type") "__init__" = some (.val (.builtin "ValueError.__init__"))) :
    FnOk G.P G.w G.K G.mg G.base C8.CX0 1 fI (PySem.W.fnOf name qual params body scope dV kV doc pm an cdv ct) [self, x] (spXi G f) := by
  unfold initScope at ss
  simp only [Bool.and_eq_true, decide_eq_true_eq, Bool.not_eq_true', List.all_eq_true] at ss
  obtain ⟨⟨⟨⟨⟨⟨⟨⟨⟨⟨⟨s1, s2⟩, s3⟩, s4⟩, s5⟩, s6⟩, s7⟩, s8⟩, s9⟩, s10⟩, s11⟩, s12⟩ := ss
  have S : FnScope [self, x] [self, x] scope := ⟨s1, s2, s3, by simp [s4], rfl, fun y m => by
    simp only [List.mem_cons, List.mem_nil_iff, or_false] at m
    rcases m with rfl | rfl
    · exact .inl s5
    · exact .inl s6, s7⟩
  refine fn_of (k := 0) lk hcd S (fun vs H Q E ⟨a, C, i, e, _⟩ => by rw [e]; rfl) fun A outer s H vs Q E room ⟨a, C, i, ev, hi, T, hno, ha, q⟩ => ?_
  subst ev
  unfold initShape at sh
  split at sh
  · rename_i b1 p1 i1 p2 s1' p3 m1 m2 ms p4 p5 p6 s2' p7 g p8 y p9 p10
    simp only [Bool.and_eq_true, decide_eq_true_eq] at sh
    obtain ⟨⟨⟨⟨⟨⟨⟨⟨rfl, rfl⟩, rfl⟩, rfl⟩, rfl⟩, rfl⟩, hm⟩, hl⟩, hline⟩ := sh
    obtain ⟨X, hX⟩ : ∃ X : Cx, X = cxOf C8.CX0 G.P G.w G.K G.mg G.base [s2', y] qual scope fI cdv A outer s H E := ⟨_, rfl⟩
    have v0 : ∀ p, PE X (.Name s2' p) (tVar 0) := fun p => by subst hX; exact pe_var (i := 0) rfl (.inl s5) s9 s10
    have v1 : ∀ p, PE X (.Name y p) (tVar 1) := fun p => by subst hX; exact pe_var (i := 1) rfl (.inl s6) s11 s12
    obtain ⟨ts, pj, run⟩ := msg_run (X := X) (x := y) (i := i) hi (j := 1) (by subst hX; rfl) (by subst hX; exact .inl s6) s11 s12 _ hm
    rw [← hX]
    refine ⟨_, pss_cons (ps_expr (pe_veinit (by subst hX; exact s8) (by subst hX; exact vV) (by subst hX; exact vI) (pa_cons (v0 _) (pa_cons (pe_joined pj) pa_nil)) (hc := ve_hc hline))) (pss_one (ps_ost (v0 _) (v1 _))), ?_⟩
    refine ⟨.ref a, rfl, run _ _ _ _ rfl ?_ fun out => ?_⟩
    · have : (Str.empty).length = 0 := rfl
      rw [this, sizeLine_eq]; omega
    · refine ⟨a, C, [.str out], rfl, (by decide : 1 ≤ 1000), by subst hX; exact T, ha, ?_⟩
      exact ⟨.int i, rfl, .ref a, rfl, a, C, rfl, by subst hX; exact T, by subst hX; exact hno, .inl ⟨ha, fun dx n ne => q dx n ne⟩⟩
  · cases sh
/-- what is known of an exception's class: its one field -/
structure XcAt (G : Gx) (cn f : Str) : Prop where
  ex : ∃ (C fI : Addr) (fd : FuncData) (ps : List Str), G.mg cn = some (.ref C) ∧ OexC G.K C ∧ PySem.W.findIn G.K (.ref C) "__init__" = some (some (.ref fI)) ∧ PySem.W.typeIn G.K (.ref fI) = some (.type "function") ∧
    FnOk G.P G.w G.K G.mg G.base C8.CX0 1 fI fd ps (spXi G f) ∧ Binds G.K fd ps [] ∧ XfC G.K C ∧ PySem.W.findIn G.K (.ref C) f = some none
  xf : G.xf cn = [f]
  nd : (cn == ("__debug__" : Str)) = false
  isV : ∀ C, G.mg cn = some (.ref C) → PySem.W.kitOne G.K (.ref C) (.type "ValueError") = some true
theorem upd_let {a dd : Addr} {o1 o2 o3 : HO} (ha : H a = none) (ne : dd ≠ a) (u : HO) : upd (del (upd (upd (upd H a o1) dd o2) a o3) a) dd u = upd H dd u := by
  funext b
  by_cases hb : b = dd
  · rw [hb, upd_same, upd_same]
  · rw [upd_ne hb, upd_ne hb]
    by_cases hb2 : b = a
    · rw [hb2, del_same, ha]
    · rw [del_ne hb2, upd_ne hb2, upd_ne hb, upd_ne hb2]
theorem msgs_one {ds : List D} (h : ds.all msgI = true) (l : ds.length = 1) : ∃ i, ds = [.int i] ∧ i.natAbs.log2 < 1920 := by
  match ds, l with
  | [d], _ =>
    rw [List.all_cons, Bool.and_eq_true] at h
    obtain ⟨h, -⟩ := h
    cases d <;> try (cases h; done)
    exact ⟨_, rfl, of_decide_eq_true h⟩
theorem y_raise {cn f : Str} {e : Expr} {i : E} {p p2 p3 : Pos} {w : Nat} (g : Gd G W k N sc st X) (x : XcAt G cn f) (hg : Gl X cn) (he : PE X e (tE G W cl i)) (pl : plainE e = true) :
    PS X (.Raise (some (.Call (.Name cn p) [e] [] p2)) none p3) (tS G W cl w (.rais cn (.cons i .nil))) := by
  obtain ⟨C, fI, fd, ps, mg, T, iC, tI, F, bd, -, hno⟩ := x.ex
  have eK := g.hK
  have F' : FnOk X.prog X.w X.K X.mg X.base C8.CX0 1 fI fd ps (spXi G f) := by rw [g.hP, g.hw, g.hK, g.hm, g.hb]; exact F
  refine PS.of (ps_raise g.calm g.tk (pmk_oex (CX := C8.CX0) (dvs := []) (ds := []) (by rw [eK]; exact T) (by rw [eK]; exact iC) (by rw [eK]; exact tI) F' (g.rm.rm.mono (by omega)) (by rw [eK]; exact bd) .nil C8.pass0 hg (by rw [g.hm]; exact mg) (x_cons he x_nil pl) x.nd (star_cons pl) rfl)) ?_
  rintro D σ H ⟨ι, ρ, h, er, hr, f1⟩
  refine ⟨ι, ρ, h, er, hr, ?_⟩
  rcases Out.of_inv f1 with ⟨ds, h1, e1, f2⟩ | ⟨x, h1, e1, f2⟩
  · rw [e1]
    intro ι1 H1 vs x1 r1 q1
    have l1 : ds.length = 1 := by
      have : evEs cl (.cons i .nil) ρ h = .ok ds h1 := e1
      exact evEs_len this
    split at f2
    · rename_i hm
      obtain ⟨j, rfl, hj⟩ := msgs_one hm l1
      match vs, q1 with
      | [v], .cons q .nil =>
        rw [q.intD]
        refine ⟨by show 1 ≤ 1000; decide, fun a na => ⟨a, C, j, rfl, hj, T, hno, upd_same, fun dd nd ne => ⟨rfl, dd, [(f, .int j)], upd_same, ?_, ?_, ?_⟩⟩⟩
        · rw [upd_ne ne, upd_same]
        · rw [upd_ne ne] at nd; exact nd
        · have nd1 : H1 dd = none := by rw [upd_ne ne] at nd; exact nd
          rw [upd_let na ne]
          have ex := Ext.laid (u := .xd [(f, .int j)]) r1 nd1
          exact f2 ι1 _ σ (.ref C) (some dd) (x1.trans ex) (r1.laid nd1) ((er.ext x1).ext ex) (.flds mg upd_same (r1.out nd1) (by rw [x.xf]; rfl) (.cons (.int j) .nil))
    · exact f2.elim
  · rw [e1]
    exact fun ι1 H1 cls dd x1 r1 q1 => f2 ι1 H1 σ cls dd x1 r1 (er.ext x1) q1

/-! ### a caught exception, looked at -/
/-- what stands in a suite: slot i holds the exception, whose field f has the value ds -/
structure XH (G : Gx) (ι : List Addr) (H : Hp) (h : Hq) (σ : MSt) (ρ : Ev) (a C : Addr) (cls : Value) (d : Option Addr) (f : Str) (i : Nat) : Prop where
  er : ER G ι H (ρ.set i none) σ
  hr : HR G ι h H
  sl : σ[i]? = some (some (.ref a))
  cl : cls = .ref C
  fd : ∃ dd v w, d = some dd ∧ H dd = some (.xd [(f, v)]) ∧ dd ∉ ι ∧ VR G ι H v w ∧ ρ[i]? = some (some (.clo 0 [w]))
variable {C : Addr} {cls : Value} {dx : Option Addr} {f : Str} {i : Nat} {oe : Obj} {pn : List (Addr × Obj)}
theorem XH.ext (x : XH G ι H h σ ρ a C cls dx f i) (e : Ext ι H ι' H') (r : HR G ι' h' H') : XH G ι' H' h' σ ρ a C cls dx f i := by
  obtain ⟨dd, v, w, e1, e2, e3, e4, e5⟩ := x.fd
  exact ⟨x.er.ext e, r, x.sl, x.cl, dd, v, w, e1, e.keep _ _ e2 e3, e.out e2 e3, e4.ext e, e5⟩
def tX (G : Gx) (cl : Cl) (a C : Addr) (cls : Value) (d : Option Addr) (f : Str) (i : Nat) (ie : E) : TE := fun σ H Q => ∃ ι ρ h, XH G ι H h σ ρ a C cls d f i ∧ FinV G never ι H σ (evE cl ie ρ h) Q
def tXt (G : Gx) (cl : Cl) (a C : Addr) (cls : Value) (d : Option Addr) (f : Str) (i : Nat) (ie : E) : TT := fun σ H Q => ∃ ι ρ h, XH G ι H h σ ρ a C cls d f i ∧ FinB G never ι H σ (tst (evE cl ie ρ h)) Q
def tXs (G : Gx) (cl : Cl) (a C : Addr) (cls : Value) (d : Option Addr) (f : Str) (i : Nat) (is : Es) : TA := fun σ H Q => ∃ ι ρ h, XH G ι H h σ ρ a C cls d f i ∧ FinL G never ι H σ (evEs cl is ρ h) Q
/-- the suite's context -/
structure Sx (G : Gx) (N : List Str) (sc : Scope) (X : Cx) (a C : Addr) (cls : Value) (dx : Option Addr) (oe : Obj) (f : Str) : Prop where
  hN : X.N = N
  hsc : X.env.scope = sc
  hK : X.K = G.K
  hP : X.prog = G.P
  hw : X.w = G.w
  hm : X.mg = G.mg
  u64 : X.A.units + 64 < cLine
  zc : Zc cls dx oe
  of : ∃ vs, oe.data = .fields vs
  xf : XfC X.K C
  no : PySem.W.findIn X.K (.ref C) f = some none
  isV : PySem.W.kitOne X.K (.ref C) (.type "ValueError") = some true
section
variable {Y : Cx} (s : Sx G N sc Y a C cls dx oe f) (hY : Y = X.suite a ((a, oe) :: pn))
include s
theorem hx_var {j : Nat} {x : Str} {pos : Pos} (hi : N[j]? = some x) (ji : j ≠ i) (hv : Vis sc x) (hd : (x == ("__debug__" : Str)) = false) (hc : (x == ("__classdict__" : Str)) = false) :
    PE Y (.Name x pos) (tX G cl a C cls dx f i (.var j)) := by
  refine PE.of (pe_var (i := j) (by rw [s.hN]; exact hi) (by rw [s.hsc]; exact hv) hd hc) ?_
  rintro σ H Q ⟨ι, ρ, h, x, fi⟩
  have fi : FinV G never ι H σ (match ρ[j]? with
    | some (some d) => .ok d h
    | _ => .er) Q := fi
  cases e : ρ[j]? with
  | none => rw [e] at fi; exact fi.elim
  | some o =>
    cases o with
    | none => rw [e] at fi; exact fi.elim
    | some d =>
      rw [e] at fi
      obtain ⟨v, h1, h2⟩ := x.er.at_ j d (by rw [List.getElem?_set_ne (fun z => ji z.symm)]; exact e)
      exact ⟨v, h1, fin_same fi x.hr h2⟩
omit s in
theorem hx_const {e : Expr} {v : V} {d : D} (h : PE Y e (tC v)) (r : ∀ ι H, VR G ι H v d) : PE Y e (tX G cl a C cls dx f i (.c d)) := by
  refine PE.of h ?_
  rintro σ H Q ⟨ι, ρ, h, x, fi⟩
  exact fin_same fi x.hr (r ι H)
omit s in
theorem hx_nil : PA Y [] (tXs G cl a C cls dx f i .nil) := by
  refine PA.of pa_nil ?_
  rintro σ H Q ⟨ι, ρ, h, x, fi⟩
  exact fi ι H [] .refl x.hr .nil
omit s in
theorem hx_cons {e : Expr} {es : List Expr} {ie : E} {is : Es} (h1 : PE Y e (tX G cl a C cls dx f i ie)) (h2 : PA Y es (tXs G cl a C cls dx f i is)) (hp : plainE e = true) : PA Y (e :: es) (tXs G cl a C cls dx f i (.cons ie is)) := by
  refine PA.of (pa_cons h1 h2 (star_cons hp)) ?_
  rintro σ H Q ⟨ι, ρ, h, x, fi⟩
  refine ⟨ι, ρ, h, x, (FinV.bindL fi).imp ?_⟩
  rintro v H1 ⟨ι1, d1, h1, e1, r1, q1, -, f1⟩
  refine ⟨ι1, ρ, h1, x.ext e1 r1, ?_⟩
  cases e2 : evEs cl is ρ h1 with
  | ok ds h2 =>
    rw [e2] at f1
    intro ι2 H2 vs x2 r2 q2
    exact f1 ι2 H2 (v :: vs) x2 r2 (.cons (q1.ext x2) q2)
  | xc x h2 => rw [e2] at f1; exact fun ι2 H2 cls dd x2 r2 q2 => f1 ι2 H2 cls dd x2 r2 q2
  | er => rw [e2] at f1; exact f1
omit s in
theorem hx_tup {es : List Expr} {is : Es} {j : Nat} {pos : Pos} (h : PA Y es (tXs G cl a C cls dx f i is)) (hl : es.length ≤ 1000) (he : is.len = es.length) : PE Y (.Tuple es j pos) (tX G cl a C cls dx f i (.tup is)) := by
  refine PE.of (pe_tup h) ?_
  rintro σ H Q ⟨ι, ρ, h, x, fi⟩
  refine ⟨ι, ρ, h, x, (FinL.bind fi).imp ?_⟩
  rintro vs H1 ⟨ι1, ds1, h1, e1, r1, q1, e2, f1⟩
  refine ⟨?_, fun p np => fin_tup f1 r1 q1 np⟩
  rw [q1.length, evEs_len e2, he]
  exact Nat.le_trans hl (by decide)
omit s in
theorem hx_lst {es : List Expr} {is : Es} {pos : Pos} (h : PA Y es (tXs G cl a C cls dx f i is)) (hl : es.length ≤ 1000) (he : is.len = es.length) : PE Y (.List es pos) (tX G cl a C cls dx f i (.lstF is)) := by
  refine PE.of (pe_lst h) ?_
  rintro σ H Q ⟨ι, ρ, h, x, fi⟩
  refine ⟨ι, ρ, h, x, (FinL.bind fi).imp ?_⟩
  rintro vs H1 ⟨ι1, ds1, h1, e1, r1, q1, e2, f1⟩
  refine ⟨?_, fun p np => fin_lst f1 r1 q1 np⟩
  rw [q1.length, evEs_len e2, he]
  exact Nat.le_trans hl (by decide)
theorem hx_ite {c e1 e2 : Expr} {ic i1 i2 : E} {pos : Pos} (hc : PT Y c (tXt G cl a C cls dx f i ic)) (h1 : PE Y e1 (tX G cl a C cls dx f i i1)) (h2 : PE Y e2 (tX G cl a C cls dx f i i2)) : PE Y (.IfExp c e1 e2 pos) (tX G cl a C cls dx f i (.ite ic i1 i2)) := by
  refine PE.of (pe_ifExp hc h1 h2) ?_
  rintro σ H Q ⟨ι, ρ, q, x, fi⟩
  refine ⟨ι, ρ, q, x, (FinB.bind fi).imp ?_⟩
  rintro t H1 ⟨ι1, h1, e1, r1, -, f1⟩
  cases t with
  | true => rw [if_pos rfl] at f1 ⊢; exact ⟨ι1, ρ, h1, x.ext e1 r1, f1⟩
  | false => rw [if_neg Bool.false_ne_true] at f1 ⊢; exact ⟨ι1, ρ, h1, x.ext e1 r1, f1⟩
theorem hx_test {e : Expr} {ir : E} (h : PE Y e (tX G cl a C cls dx f i ir)) (hp : plainT e = true) : PT Y e (tXt G cl a C cls dx f i ir) := by
  refine PT.of (pt_truth h (isT hp)) ?_
  rintro σ H Q ⟨ι, ρ, hq, x, fi⟩
  refine ⟨ι, ρ, hq, x, (FinV.bindB fi).imp ?_⟩
  rintro v H1 ⟨ι1, d1, h1, e1, r1, q1, -, f1⟩
  cases et : tru h1 d1 with
  | none => rw [et] at f1; exact f1.elim
  | some b =>
    rw [et] at f1
    exact ⟨b, TruV.kx s.hK (tru_V r1 q1 et), f1 ι1 H1 .refl r1⟩
theorem hx_eq {a' b' : Expr} {ia ib : E} {pos : Pos} (ha : PE Y a' (tX G cl a C cls dx f i ia)) (hb : PE Y b' (tX G cl a C cls dx f i ib)) (hm : plainM b' = true) :
    PE Y (.Compare a' [.Eq] [b'] pos) (tX G cl a C cls dx f i (.cmp .eq ia ib)) ∧ PT Y (.Compare a' [.Eq] [b'] pos) (tXt G cl a C cls dx f i (.cmp .eq ia ib)) := by
  have op : OpR Y (compareOp .Eq) (rB2 G never fun h x y => R.of ((cmpD h .eq x y).map .bl) h) := by
    have := op_cmpEq (neg := false) (W := never) s.hK s.u64
    exact this
  refine ⟨PE.of (pe_cmpR op ha hb (noMark hm)) ?_, PT.of (pt_cmpR op ha hb (noMark hm)) ?_⟩
  · rintro σ H Q ⟨ι, ρ, q, x, fi⟩
    refine ⟨ι, ρ, q, x, (FinV.bind fi).imp ?_⟩
    rintro v1 H1 ⟨ι1, d1, h1, e1, r1, q1, -, f1⟩
    refine ⟨ι1, ρ, h1, x.ext e1 r1, (FinV.bind f1).imp ?_⟩
    rintro v2 H2 ⟨ι2, d2, h2, e2, r2, q2, -, f2⟩
    exact ⟨ι2, h2, d1, d2, σ, r2, q1.ext e2, q2, f2⟩
  · rintro σ H Q ⟨ι, ρ, q, x, fi⟩
    have fi : FinB G never ι H σ (((evE cl ia ρ q).bind fun x h1 => (evE cl ib ρ h1).bind fun y h2 => R.of ((cmpD h2 .eq x y).map .bl) h2).bind fun d h => R.of (tru h d) h) Q := fi
    have assoc : (((evE cl ia ρ q).bind fun x h1 => (evE cl ib ρ h1).bind fun y h2 => R.of ((cmpD h2 .eq x y).map .bl) h2).bind fun d h => R.of (tru h d) h) =
        (evE cl ia ρ q).bind fun x h1 => (evE cl ib ρ h1).bind fun y h2 => (R.of ((cmpD h2 .eq x y).map D.bl) h2).bind fun d h => R.of (tru h d) h := by
      cases evE cl ia ρ q with
      | ok x h1 => simp only [R.bind_ok]; cases evE cl ib ρ h1 <;> rfl
      | xc => rfl
      | er => rfl
    rw [assoc] at fi
    refine ⟨ι, ρ, q, x, (FinV.bindB fi).imp ?_⟩
    rintro v1 H1 ⟨ι1, d1, h1, e1, r1, q1, -, f1⟩
    refine ⟨ι1, ρ, h1, x.ext e1 r1, (FinV.bindB f1).imp ?_⟩
    rintro v2 H2 ⟨ι2, d2, h2, e2, r2, q2, -, f2⟩
    refine ⟨ι2, h2, d1, d2, σ, r2, q1.ext e2, q2, ?_⟩
    cases ec : cmpD h2 .eq d1 d2 with
    | none => rw [ec] at f2; exact f2.elim
    | some t =>
      rw [ec] at f2
      dsimp only
      rw [ec]
      intro ι3 H3 v3 e3 r3 q3
      rw [q3.blD]
      exact ⟨t, rfl, f2 ι3 H3 e3 r3⟩
theorem hx_len {y : Expr} {iy : E} {p pos : Pos} (hg : Gl Y "len") (hm : Y.mg "len" = none) (hy : PE Y y (tX G cl a C cls dx f i iy)) (pl : plainE y = true) : PE Y (.Call (.Name "len" p) [y] [] pos) (tX G cl a C cls dx f i (.b1 .len iy)) := by
  refine PE.of (pe_callB (c_len (W := never) s.hK s.hP s.hw) hg hm boot_len (pa_cons hy pa_nil (star_cons pl)) (by decide) (by decide) (star_cons pl) rfl) ?_
  rintro σ H Q ⟨ι, ρ, q, x, fi⟩
  refine ⟨ι, ρ, q, x, (FinV.bind fi).imp ?_⟩
  rintro v H1 ⟨ι1, d1, h1, e1, r1, q1, -, f1⟩
  exact ⟨v, rfl, ι1, h1, d1, σ, r1, q1, f1⟩
include hY in
theorem hx_fld {x : Str} {p pos : Pos} (hi : N[i]? = some x) (hv : Vis sc x) (hd : (x == ("__debug__" : Str)) = false) (hc : (x == ("__classdict__" : Str)) = false) : PE Y (.Attribute (.Name x p) f pos) (tX G cl a C cls dx f i (.fld (.var i) f)) := by
  have pv : PE Y (.Name x p) (tVar i) := pe_var (i := i) (by rw [s.hN]; exact hi) (by rw [s.hsc]; exact hv) hd hc
  subst hY
  refine PE.of (pe_xf (C := C) (cls := cls) (d := dx) (n := f) s.xf s.no s.zc s.of pv rfl) ?_
  rintro σ H Q ⟨ι, ρ, q, x, fi⟩
  obtain ⟨dd, v, w, e1, e2, e3, e4, e5⟩ := x.fd
  refine ⟨.ref a, x.sl, rfl, x.cl, dd, _, v, e1, e2, by simp [List.lookup], ?_⟩
  have fi : FinV G never ι H σ ((match ρ[i]? with
    | some (some d) => R.ok d q
    | _ => R.er).bind fun x h1 => R.of (getFd h1 x f) h1) Q := fi
  rw [e5] at fi
  exact fin_same fi x.hr e4
end

/-! ### isinstance of a caught exception: True -/
section
open PySem.W
theorem isE_ans {K : PySem.W.Frag} {x D : Addr} {ob : Obj} (hc : ob.cls = .ref D) (e : kitOne K (.ref D) (.type "ValueError") = some true) : Answers (fun s => K.In s.heap ∧ s.heap.get? x = some ob) (.ref x) (.type "ValueError") true := by
  intro dep tk prog w A R s ⟨⟨X0, p0⟩, hq⟩
  obtain ⟨h0, g0, d0, t0, os0⟩ := s
  have lt : Looks (model prog w) h0 (typeOf (.ref x)) (.ref D) := hc ▸ (Looks.ld p0).andThen .now
  have e2 : kitCls K (.ref D) (.type "ValueError") = some true := e
  obtain ⟨q1, q2, q3⟩ := kit_cls (M := model prog w) X0 e2
  have qi : Looks (model prog w) h0 (isInstance (.ref x) (.type "ValueError")) true := lt.andThen q3
  unfold Builtin.«isinstance.nested»
  refine wpAny_bind (lt.at ?_)
  rw [if_neg (show ¬ (Value.ref D == Value.type "ValueError") = true from fun z => by cases beq_iff_eq.mp z)]
  refine wpAny_bind (q1.at ?_)
  rw [if_pos (show (Value.type "type" == Value.type "type") = true from by decide)]
  k_delta "plainIsInstance"
  refine wpAny_bind (wpAny_bind (q2.at ?_))
  simp only [if_false, Bool.not_true, Bool.false_eq_true]
  refine wpAny_bind (qi.at ?_)
  first
    | exact wpAny_pure (wpAny_pure (hq t0))
    | (simp only [if_true]; first | exact wpAny_pure (hq t0) | exact wpAny_bind (wpAny_pure (wpAny_pure (hq t0))))
end
section
variable {Y : Cx} (S : Sx G N sc Y a C cls dx oe f) (hY : Y = X.suite a ((a, oe) :: pn))
theorem pe_tyName {T : String} {nm : Str} {pos : Pos} (hg : Gl X nm) (hm : X.mg nm = none) (bt : bootBuiltins nm = some (.type T)) (nn : nm ≠ "__name__") (nd : (nm == ("__debug__" : Str)) = false) : PE X (.Name nm pos) (tC (.ty T)) :=
  ⟨fun pins s σ H Q I q => ld_blt I hg hm bt ⟨.ty T, H, I, rfl, q⟩ nn nd⟩
include S hY in
theorem hx_isi {x : Str} {p p2 p3 pos : Pos} (hi : N[i]? = some x) (hv : Vis sc x) (hd : (x == ("__debug__" : Str)) = false) (hc : (x == ("__classdict__" : Str)) = false) (g1 : Gl Y "isinstance") (m1 : Y.mg "isinstance" = none) (g2 : Gl Y "ValueError") (m2 : Y.mg "ValueError" = none)
    : PE Y (.Call (.Name "isinstance" p) [.Name x p2, .Name "ValueError" p3] [] pos) (tX G cl a C cls dx f i (.isi ["ValueError"] (.var i))) := by
  have pv : PE Y (.Name x p2) (tVar i) := pe_var (i := i) (by rw [S.hN]; exact hi) (by rw [S.hsc]; exact hv) hd hc
  have cr : CallR Y (.builtin "isinstance") (fun xs H Q => xs = [.ref a, .ty "ValueError"] ∧ cls = .ref C ∧ Q (.bl true) H) := by
    rintro pins s0 σ H xs us Q I r ⟨rfl, hs_0, q⟩
    cases r with
    | cons rx rr =>
      cases rr with
      | cons rt rr =>
        cases rr
        cases rx; cases rt
        have pin : s0.heap.get? a = some oe := by
          subst hY
          exact (I.pin (a, oe) (List.mem_append.mpr (.inl List.mem_cons_self))).1
        refine PySem.call_isinstance (S := fun _ R s => (Y.K.In s.heap ∧ s.heap.get? a = some oe) ∧ ∀ tk, R (.ok (.ret (.bool true))) { s with toks := tk }) (fun prog w A R s hs => isinstance_outer (isE_ans (S.zc.1.trans hs_0) S.isV 0 _ prog w A R s hs) (fun z => nomatch z)) ⟨⟨I.kIn, pin⟩, fun tk => ?_⟩
        exact ⟨.bl true, H, I.kept (t' := tk) fun _ _ z => z, rfl, q⟩
  refine PE.of (pe_callB cr g1 m1 PyProof.Rows.boot_isinstance (pa_cons pv (pa_cons (pe_tyName g2 m2 PyProof.Rows.Boot.«ValueError» (by decide) (by decide)) pa_nil rfl) rfl) (by decide) (by decide) rfl rfl) ?_
  rintro σ H Q ⟨ι, ρ, q, x, fi⟩
  obtain ⟨dd, v, w, e1, e2, e3, e4, e5⟩ := x.fd
  have fi : FinV G never ι H σ ((match ρ[i]? with
    | some (some d) => R.ok d q
    | _ => R.er).bind fun x h1 => R.of ((isiD h1 ["ValueError"] x).map .bl) h1) Q := fi
  rw [e5] at fi
  exact ⟨.ref a, x.sl, rfl, x.cl, fin_same fi x.hr (.bl true)⟩
end

/-! ### try -/
theorem Gd.tr {W' : WX} {xe : Value → Shared → Prop} {pn : List (Addr × Obj)} (g : Gd G W k N sc st X) (tk : Takes (X.tr pn xe) W') (own : PassesOwn (model X.prog X.w) X.A X.env xe) : Gd G W' k N sc st (X.tr pn xe) :=
  ⟨g.hN, g.hsc, g.nd, g.hP, g.hw, g.hK, g.hm, g.hb, g.calm, ⟨g.rm.rm, g.rm.gd⟩, tk, own, g.sto⟩
/-- the statement of a handler -/
inductive HSt where
  | ret (e : E) | asg (j : Nat) (e : E)
def HSt.ss : HSt → Ss
  | .ret e => .cons (.ret e) .nil
  | .asg j e => .cons (.asg (.nm j) e) .nil
def HSt.ok (i : Nat) : HSt → Bool
  | .ret _ => true
  | .asg j _ => decide (j ≠ i)
def tH (G : Gx) (cl : Cl) (C : Addr) (i : Nat) (f : Str) (hs : HSt) (a : Addr) (cls : Value) (d : Option Addr) : TS := fun D σ H => ∃ ι ρ h, XH G ι H h σ ρ a C cls d f i ∧ (match hs with
  | .ret e => FinV G never ι H σ (evE cl e ρ h) D.rt
  | .asg j e => FinV G never ι H σ (evE cl e ρ h) fun v H1 => D.nx (σ.set j (some v)) H1)
theorem ER.unset {u : Option V} (er : ER G ι H ρ σ) (i : Nat) : ER G ι H (ρ.set i none) (σ.set i u) := by
  refine ⟨by simp [er.len], fun j d e => ?_⟩
  by_cases ij : i = j
  · subst ij
    rw [List.getElem?_set] at e
    simp at e
  · rw [List.getElem?_set_ne ij] at e ⊢
    exact er.at_ j d e
theorem ER.unset2 {j : Nat} {u : Option V} {c : Option D} (er : ER G ι H ρ σ) {i : Nat} (ij : j ≠ i) (q : VR G ι H v d) : ER G ι H (((ρ.set i c).set j (some d)).set i none) (((σ.set i u).set j (some v)).set i none) := by
  refine ⟨by simp [er.len], fun l e he => ?_⟩
  by_cases il : i = l
  · subst il
    rw [List.getElem?_set] at he
    simp at he
  · rw [List.getElem?_set_ne il] at he ⊢
    by_cases jl : j = l
    · subst jl
      rw [List.getElem?_set] at he ⊢
      simp only [if_true, List.length_set] at he ⊢
      rw [er.len] at he
      split at he
      · cases he
        rename_i hl
        rw [if_pos hl]
        exact ⟨v, rfl, q⟩
      · cases he
    · rw [List.getElem?_set_ne jl, List.getElem?_set_ne il] at he ⊢
      exact er.at_ l e he
structure Fr (X : Cx) : Prop where
  stk : X.stack = X.env :: X.outer
  frm : X.env.frame = some X.env.locals
theorem y_try {body suite : List Stmt} {b0 : Stmt} {ib : Ss} {cn n : Str} {oth : List Str} {hs : HSt} {np pos pos' : Pos} {w : Nat} (g : Gd G W k N sc st X) (fr : Fr X) (x : XcAt G cn f)
    (xm : ∀ c, c = cn ∨ c ∈ oth → ∀ C D, G.mg c = some (.ref C) → G.mg cn = some (.ref D) → PySem.W.exmOne G.K (.ref C) (.ref D) = some (decide (c = cn)))
    (hg : Gl X cn) (hi : N[i]? = some n) (hn : sc.names.lookup n = some .local) (hok : hs.ok i = true)
    (hb : ∀ W' X', Gd G W' k N sc st X' → Fr X' → PSs X' body (tSs G W' cl w ib))
    (hsu : ∀ (a C : Addr) (oe : Obj) (cls : Value) (d : Option Addr) (pn : List (Addr × Obj)), Sx G N sc (X.suite a ((a, oe) :: pn)) a C cls d oe f → PSs (X.suite a ((a, oe) :: pn)) (b0 :: suite) (tH G cl C i f hs a cls d)) :
    PS X (.Try body [.ExceptHandler (some (.Name cn np)) (some n) (b0 :: suite) pos'] [] [] pos) (tS G W cl w (.try_ ib cn oth (some i) hs.ss)) := by
  obtain ⟨C, fI, fd, ps, mg, T, iC, tI, F, bd, xf, hno⟩ := x.ex
  refine PS.of (ps_try_as (Wout := W) (i := i) (tb := fun W' => tSs G W' cl w ib) (ts := fun a cls d => tH G cl C i f hs a cls d) fr.stk fr.frm (by rw [g.hN]; exact g.nd) (by rw [g.hN]; exact hi) (by show X.env.scope.names.lookup n = some .local; rw [g.hsc]; exact hn) ⟨hg, x.nd, .inl (by rw [g.hm]; exact mg)⟩ g.tk
    (fun W' pn xe tk own => hb W' _ (g.tr tk own) ⟨fr.stk, fr.frm⟩)
    (fun a oe cls d pn hz hv => hsu a C oe cls d pn ⟨g.hN, g.hsc, g.hK, g.hP, g.hw, g.hm, g.rm.u64, hz, hv, by rw [show (X.suite a ((a, oe) :: pn)).K = G.K from g.hK]; exact xf, by rw [show (X.suite a ((a, oe) :: pn)).K = G.K from g.hK]; exact hno, by rw [show (X.suite a ((a, oe) :: pn)).K = G.K from g.hK]; exact x.isV C mg⟩)) ?_
  rintro D σ H ⟨ι, ρ, h, er, hr, f1⟩
  refine ⟨ι, ρ, h, er, hr, ?_⟩
  have f1 : FinO G W ι H (match evSs cl w ib ρ h with
    | .xc x ρ1 h1 => if x.cn = cn then (if i < ρ1.length then Out.unset i (evSs cl w hs.ss (ρ1.set i (some (.clo 0 x.fs))) h1) else .er) else if oth.contains x.cn then .xc x ρ1 h1 else .er
    | o => o) D := f1
  cases e : evSs cl w ib ρ h with
  | nx => rw [e] at f1; exact f1
  | rt => rw [e] at f1; exact f1
  | bk => rw [e] at f1; exact f1
  | ct => rw [e] at f1; exact f1
  | er => rw [e] at f1; exact f1
  | xc xx ρ1 h1 =>
    rw [e] at f1
    dsimp only at f1
    intro ι1 H1 σ1 cls dd x1 r1 er1 xr
    by_cases hc : xx.cn = cn
    · rw [if_pos hc] at f1
      split at f1
      · rename_i hl
        cases xr with
        | bare m z =>
          dsimp only at hc
          rw [hc, x.xf] at z; cases z
        | @flds c C' dx' fvs ds m hd nd nm vr =>
          dsimp only at hc f1
          rw [hc] at m nm
          rw [x.xf] at nm
          have eC : C' = C := by rw [mg] at m; injection m with m; injection m with m; exact m.symm
          subst eC
          obtain ⟨v0, rfl⟩ : ∃ v0, fvs = [(f, v0)] := by
            match fvs, nm with
            | [(g, v0)], nm => simp at nm; exact ⟨v0, by rw [nm]⟩
          match ds, vr with
          | [w0], .cons q0 .nil =>
            have ex := xm cn (.inl rfl) _ _ mg mg
            rw [decide_eq_true rfl, ← g.hK] at ex
            refine ⟨true, ex, fun _ a na => ?_, fun z => by cases z⟩
            have hl2 : i < σ1.length := by rw [← er1.len]; exact hl
            refine ⟨ι1, ρ1.set i (some (.clo 0 [w0])), h1, ⟨?_, r1, by rw [List.getElem?_set_self hl2], rfl, _, v0, w0, rfl, hd, nd, q0, by rw [List.getElem?_set_self hl]⟩, ?_⟩
            · rw [List.set_set]; exact er1.unset i
            · cases hs with
              | ret ee =>
                have f1 : FinO G W ι H (Out.unset i (match Out.of (evE cl ee (ρ1.set i (some (.clo 0 [w0]))) h1) (ρ1.set i (some (.clo 0 [w0]))) (fun d h1 => Out.rt d (ρ1.set i (some (.clo 0 [w0]))) h1) with
                  | .nx ρ1 h1 => evSs cl w .nil ρ1 h1
                  | o => o)) D := f1
                dsimp only
                cases e2 : evE cl ee (ρ1.set i (some (.clo 0 [w0]))) h1 with
                | ok d2 h2 =>
                  rw [e2] at f1
                  exact fun ι2 H2 v2 x2 r2 q2 => f1 ι2 H2 v2 (x1.trans x2) r2 q2
                | xc => rw [e2] at f1; exact f1.elim
                | er => rw [e2] at f1; exact f1.elim
              | asg j ee =>
                have ji : j ≠ i := of_decide_eq_true hok
                have f1 : FinO G W ι H (Out.unset i (match Out.of (evE cl ee (ρ1.set i (some (.clo 0 [w0]))) h1) (ρ1.set i (some (.clo 0 [w0]))) (fun d h1 => Out.of (evT cl (.nm j) d (ρ1.set i (some (.clo 0 [w0]))) h1) (ρ1.set i (some (.clo 0 [w0]))) fun ρ2 h2 => Out.nx ρ2 h2) with
                  | .nx ρ1 h1 => evSs cl w .nil ρ1 h1
                  | o => o)) D := f1
                dsimp only
                cases e2 : evE cl ee (ρ1.set i (some (.clo 0 [w0]))) h1 with
                | ok d2 h2 =>
                  rw [e2] at f1
                  have f1 : FinO G W ι H (.nx (((ρ1.set i (some (.clo 0 [w0]))).set j (some d2)).set i none) h2) D := f1
                  exact fun ι2 H2 v2 x2 r2 q2 => f1 ι2 H2 _ (x1.trans x2) r2 ((er1.ext x2).unset2 ji q2)
                | xc => rw [e2] at f1; exact f1.elim
                | er => rw [e2] at f1; exact f1.elim
      · exact f1.elim
    · rw [if_neg hc] at f1
      split at f1
      · rename_i ho
        have ho : xx.cn ∈ oth := by simpa using ho
        have key : ∀ C', G.mg xx.cn = some (.ref C') → PySem.W.exmOne X.K (.ref C') (.ref C) = some false := fun C' m => by
          rw [g.hK, xm xx.cn (.inr ho) C' C m mg, decide_eq_false hc]
        cases xr with
        | bare m z => exact ⟨false, key _ m, (fun z => by cases z), fun _ => f1 ι1 H1 σ1 _ _ x1 r1 er1 (.bare m z)⟩
        | flds m hd nd nm vr => exact ⟨false, key _ m, (fun z => by cases z), fun _ => f1 ι1 H1 σ1 _ _ x1 r1 er1 (.flds m hd nd nm vr)⟩
      · exact f1.elim
/-- a handler that returns a constant -/
theorem y_try0 {body : List Stmt} {ib : Ss} {cn : Str} {oth : List Str} {e : Expr} {dd : D} {vv : V} {np pos pos' p1 : Pos} {w : Nat} (g : Gd G W k N sc st X) (fr : Fr X) (x : XcAt G cn f)
    (xm : ∀ c, c = cn ∨ c ∈ oth → ∀ C D, G.mg c = some (.ref C) → G.mg cn = some (.ref D) → PySem.W.exmOne G.K (.ref C) (.ref D) = some (decide (c = cn)))
    (hg : Gl X cn) (hc : ∀ Y : Cx, PE Y e (tC vv)) (hv : ∀ ι H, VR G ι H vv dd)
    (hb : ∀ W' X', Gd G W' k N sc st X' → Fr X' → PSs X' body (tSs G W' cl w ib)) :
    PS X (.Try body [.ExceptHandler (some (.Name cn np)) none [.Return (some e) p1] pos'] [] [] pos) (tS G W cl w (.try_ ib cn oth none (.cons (.ret (.c dd)) .nil))) := by
  obtain ⟨C, fI, fd, ps, mg, T, iC, tI, F, bd, xf, hno⟩ := x.ex
  refine PS.of (ps_try_only (Wout := W) (tb := fun W' => tSs G W' cl w ib) (ts := fun a cls d => tRet (tC vv)) fr.stk fr.frm ⟨hg, x.nd, .inl (by rw [g.hm]; exact mg)⟩ g.tk
    (fun W' pn xe tk own => hb W' _ (g.tr tk own) ⟨fr.stk, fr.frm⟩)
    (fun a oe cls d pn hz hv => pss_one (ps_ret (hc _)))) ?_
  rintro D σ H ⟨ι, ρ, h, er, hr, f1⟩
  refine ⟨ι, ρ, h, er, hr, ?_⟩
  have f1 : FinO G W ι H (match evSs cl w ib ρ h with
    | .xc x ρ1 h1 => if x.cn = cn then .rt dd ρ1 h1 else if oth.contains x.cn then .xc x ρ1 h1 else .er
    | o => o) D := f1
  cases e : evSs cl w ib ρ h with
  | nx => rw [e] at f1; exact f1
  | rt => rw [e] at f1; exact f1
  | bk => rw [e] at f1; exact f1
  | ct => rw [e] at f1; exact f1
  | er => rw [e] at f1; exact f1
  | xc xx ρ1 h1 =>
    rw [e] at f1
    dsimp only at f1
    intro ι1 H1 σ1 cls dd1 x1 r1 er1 xr
    have isC : ∃ C', cls = .ref C' ∧ G.mg xx.cn = some (.ref C') := by cases xr with
      | bare m z => exact ⟨_, rfl, m⟩
      | flds m => exact ⟨_, rfl, m⟩
    obtain ⟨C', rfl, m⟩ := isC
    by_cases hc : xx.cn = cn
    · rw [if_pos hc] at f1
      have ex := xm xx.cn (.inl hc) _ _ m mg
      rw [decide_eq_true hc, ← g.hK] at ex
      exact ⟨true, ex, fun _ a na => f1 ι1 H1 vv x1 r1 (hv ι1 H1), fun z => by cases z⟩
    · rw [if_neg hc] at f1
      split at f1
      · rename_i ho
        have ho : xx.cn ∈ oth := by simpa using ho
        have ex := xm xx.cn (.inr ho) C' C m mg
        rw [decide_eq_false hc, ← g.hK] at ex
        exact ⟨false, ex, (fun z => by cases z), fun _ => f1 ι1 H1 σ1 _ _ x1 r1 er1 xr⟩
      · exact f1.elim

/-! ### isinstance -/
/-- the type's name -/
def knd : D → Option String
  | .non => some "NoneType"
  | .bl _ => some "bool"
  | .int _ => some "int"
  | .str _ => some "str"
  | .tup _ => some "tuple"
  | .lst _ => some "list"
  | _ => none
def tyS : List (Str × String) := [("int", "int"), ("bool", "bool"), ("str", "str"), ("tuple", "tuple"), ("list", "list"), ("dict", "dict")]
theorem boot_ty : ∀ p ∈ tyS, bootBuiltins p.1 = some (.type p.2) ∧ p.1 ≠ ("__name__" : Str) ∧ (p.1 == ("__debug__" : Str)) = false := by
  intro p m
  simp only [tyS, List.mem_cons, List.mem_nil_iff, or_false] at m
  rcases m with rfl | rfl | rfl | rfl | rfl | rfl
  · exact ⟨PyProof.Rows.boot_int, by decide, by decide⟩
  · exact ⟨PyProof.Rows.boot_bool, by decide, by decide⟩
  · exact ⟨PyProof.Rows.boot_str, by decide, by decide⟩
  · exact ⟨PyProof.Rows.boot_tuple, by decide, by decide⟩
  · exact ⟨PyProof.Rows.boot_list, by decide, by decide⟩
  · exact ⟨PyProof.Rows.boot_dict, by decide, by decide⟩
theorem kit_tab : ∀ p ∈ tyS, kitB "NoneType" p.2 = some false ∧ kitB "bool" p.2 = some ((["bool", "int"] : List Str).contains p.1) ∧ kitB "int" p.2 = some ((["int"] : List Str).contains p.1) ∧ kitB "str" p.2 = some ((["str"] : List Str).contains p.1) ∧
    kitB "tuple" p.2 = some ((["tuple"] : List Str).contains p.1) ∧ kitB "list" p.2 = some ((["list"] : List Str).contains p.1) := by
  decide +kernel
theorem ty_of (r : HR G ι h H) (q : VR G ι H v d) {n : String} (e : knd (view h d) = some n) : TyX G.K H v (.type n) := by
  cases ev : view h d with
  | non => rw [ev] at e; cases e; rw [view_non q ev]; exact .base .non
  | bl b => rw [ev] at e; cases e; rw [view_bl q ev]; exact .base (.bl b)
  | int i => rw [ev] at e; cases e; rw [view_int q ev]; exact .base (.int i)
  | str x => rw [ev] at e; cases e; rw [view_str q ev]; exact .base (.str x)
  | tup xs =>
    rw [ev] at e; cases e
    obtain ⟨a, vs, rfl, t, w⟩ := view_tup r q ev
    rcases t with ⟨-, t | ⟨o, t⟩⟩ | ⟨o, its, n, t, hc, _⟩
    · exact .base (.tup t)
    · exact .fTuple t
    · exact .kTuple t hc
  | lst xs =>
    rw [ev] at e; cases e
    obtain ⟨a, vs, rfl, t, w⟩ := view_lst r q ev
    rcases t with (t | ⟨o, t⟩) | ⟨o, its, n, t, hc, _⟩
    · exact .base (.lst t)
    · exact .base (.frz t)
    · exact .kList t hc
  | dct _ _ => rw [ev] at e; cases e
  | ref _ => rw [ev] at e; cases e
  | clo _ _ => rw [ev] at e; cases e
  | hole => rw [ev] at e; cases e
  | slst _ => rw [ev] at e; cases e
theorem knd_isi {p : Str × String} (m : p ∈ tyS) {b : Bool} (e : isiD h [p.1] d = some b) (nc : ∀ n ws, view h d ≠ .clo n ws) : ∃ n, knd (view h d) = some n ∧ kitB n p.2 = some b := by
  obtain ⟨k1, k2, k3, k4, k5, k6⟩ := kit_tab p m
  unfold isiD kinds at e
  have one : ∀ l : List Str, ([p.1].any fun t => l.contains t) = l.contains p.1 := fun l => by simp
  cases ev : view h d <;> rw [ev] at e <;> first
    | (cases e; done)
    | (exfalso; exact nc _ _ ev)
    | (simp only [Option.map_some, one, Option.some.injEq] at e; subst e; exact ⟨_, rfl, by first | exact k1 | exact k2 | exact k3 | exact k4 | exact k5 | exact k6⟩)
theorem x_isi {y : Expr} {iy : E} {q : Str × String} {p p3 pos : Pos} (g : Gd G W k N sc st X) (m : q ∈ tyS) (g1 : Gl X "isinstance") (m1 : X.mg "isinstance" = none) (g2 : Gl X q.1) (m2 : X.mg q.1 = none) (hy : PE X y (tE G W cl iy)) (pl : plainE y = true) :
    PE X (.Call (.Name "isinstance" p) [y, .Name q.1 p3] [] pos) (tE G W cl (.isi [q.1] iy)) := by
  obtain ⟨b1, b2, b3⟩ := boot_ty q m
  refine PE.of (pe_callB call_isi g1 m1 PyProof.Rows.boot_isinstance (pa_cons hy (pa_cons (pe_tyName g2 m2 b1 b2 b3) pa_nil rfl) (star_cons pl)) (by decide) (by decide) (star_cons pl) rfl) ?_
  rintro σ H Q ⟨ι, ρ, hq, er, hr, f⟩
  refine ⟨ι, ρ, hq, er, hr, (FinV.bind f).imp ?_⟩
  rintro v H1 ⟨ι1, d1, h1, e1, r1, q1, -, f1⟩
  have f1 : FinV G W ι1 H1 σ (R.of ((isiD h1 [q.1] d1).map .bl) h1) Q := f1
  cases e : isiD h1 [q.1] d1 with
  | none => rw [e] at f1; exact f1.elim
  | some b =>
    rw [e] at f1
    obtain ⟨n, kn, kb⟩ := knd_isi m e (fun n ws ev => by
      cases q1 <;> (unfold view at ev; split at ev <;> (try (split at ev)) <;> cases ev))
    refine ⟨v, .ty q.2, .type n, .type q.2, b, rfl, .ty _, ?_, kit_ty kb, fin_same f1 r1 (.bl b)⟩
    rw [g.hK]; exact ty_of r1 q1 kn
end Rx

/-! RxK: the checker of expressions and its soundness. -/
namespace Rx
open PySem L2
variable {G : Gx} {W : WX} {cl : Cl} {k : Nat} {N : List Str} {sc : Scope} {st st' : List Str} {X : Cx}
variable {ι ι' : List Addr} {H H' : Hp} {h h' : Hq} {ρ : Ev} {σ σ' : MSt} {v : V} {d : D} {a : Addr} {n : Nat}

theorem x_rev {a : Expr} {ia : E} {j : Nat} {p1 p2 p3 pos : Pos} (g : Gd G W k N sc st X) (ha : PE X a (tE G W cl ia)) : PE X (.Subscript a (.Slice none none (some (.UnaryOp .USub (.Constant (.int 1) j p1) p2)) p3) pos) (tE G W cl (.rev ia)) := by
  refine PE.of (pe_revL ha) ?_
  rintro σ H Q ⟨ι, ρ, q, er, rq, f⟩
  refine ⟨ι, ρ, q, er, rq, (FinV.bind f).imp ?_⟩
  rintro v H1 ⟨ι1, d1, h1, e1, r1, q1, -, f1⟩
  cases e : revD h1 d1 with
  | none => rw [e] at f1; exact f1.elim
  | some d2 =>
    rw [e] at f1
    unfold revD at e
    split at e
    · rename_i xs ev
      cases e
      obtain ⟨a, vs, rfl, t, w⟩ := view_lst r1 q1 ev
      exact ⟨a, vs, rfl, by rw [g.hK]; exact t, fun p np => fin_lst f1 r1 w.reverse np⟩
    · cases e

/-! ### what is checked -/
/-- the module's other names: built-ins that stay, exceptions with one field -/
structure Nv where
  blt : List Str
  xcs : List (Str × Str)
structure Ck where
  N : List Str
  sc : Scope
  st : List Str
  fns : List (Str × Nat)
  fre : Nv
/-- what the checks lean on -/
structure Hy (G : Gx) (cl : Cl) (k : Nat) (fns : List (Str × Nat)) (fre : Nv) : Prop where
  fn : ∀ name n, fns.lookup name = some n → ∃ f fd ps, FnAt G cl k name n f fd ps
  no : ∀ x ∈ fre.blt, G.mg x = none
  xc : ∀ p ∈ fre.xcs, XcAt G p.1 p.2
  xm : ∀ p ∈ fre.xcs, ∀ q ∈ fre.xcs, ∀ C D, G.mg p.1 = some (.ref C) → G.mg q.1 = some (.ref D) → PySem.W.exmOne G.K (.ref C) (.ref D) = some (decide (p.1 = q.1))
def glb (c : Ck) (x : Str) : Bool := decide (c.sc.names.lookup x = some .globalImplicit)
def blt (c : Ck) (x : Str) : Bool := glb c x && c.fre.blt.contains x
def visB (sc : Scope) (x : Str) : Bool := match sc.names.lookup x with
  | some .local => true
  | some .cell => true
  | some .free => true
  | _ => false
def locB (sc : Scope) (x : Str) : Bool := match sc.names.lookup x with
  | some .local => true
  | some .cell => true
  | _ => false
def okN (x : Str) : Bool := !(x == ("__debug__" : Str)) && !(x == ("__classdict__" : Str))
def notIf : Expr → Bool
  | .IfExp _ _ _ _ => false
  | _ => true
def b1n : B1 → Option Str
  | .len => some "len"
  | .tuple => some "tuple"
  | .list => some "list"
  | .listM => some "list"
  | .sum => some "sum"
  | .all => some "all"
  | .any => some "any"
  | .abs => some "abs"
  | .int => some "int"
  | .str => some "str"
  | .repr => some "repr"
  | .sorted => some "sorted"
  | .max => some "max"
  | .min => some "min"
  | _ => none
def b2n : B2 → Str
  | .min => "min"
  | .max => "max"
def bmn : Bm → Option (Str × Nat)
  | .append => some ("append", 1)
  | .extend => some ("extend", 1)
  | .pop => some ("pop", 0)
  | .popAt => some ("pop", 1)
  | .get => some ("get", 1)
  | .get3 => some ("get", 2)
  | .setdefault => some ("setdefault", 2)
  | _ => none
def cD : Const → Option D
  | .none => some .non
  | .bool b => some (.bl b)
  | .int i => some (.int i)
  | .str x => some (.str x)
  | _ => none
def chkEs (f : Expr → E → Bool) : List Expr → Es → Bool
  | [], .nil => true
  | e :: es, .cons i is => plainE e && f e i && chkEs f es is
  | _, _ => false
def chkO (f : Expr → E → Bool) : Option Expr → E → Bool
  | none, .c .hole => true
  | some e, i => f e i
  | _, _ => false
def oneIf (f : Expr → E → Bool) (l : List Expr) (i : E) : Bool := match l, i with
  | [], .c (.bl true) => true
  | [e], i => notIf e && f e i
  | _, _ => false
mutual
def chkT (c : Ck) (f : Expr → E → Bool) : Nat → Expr → T → Bool
  | 0, _, _ => false
  | n + 1, e, t => match t with
    | .nm i => (match e with
      | .Name x _ => decide (c.N[i]? = some x) && locB c.sc x && c.st.contains x
      | _ => false)
    | .tp ts => (match e with
      | .Tuple es _ _ => es.all plainG && decide (es.length = ts.len) && chkTs c f n es ts
      | _ => false)
    | .sub o i => (match e with
      | .Subscript a b _ => notSlice b && f a o && f b i
      | _ => false)
    | .fld _ _ => false
def chkTs (c : Ck) (f : Expr → E → Bool) : Nat → List Expr → Ts → Bool
  | 0, _, _ => false
  | _, [], .nil => true
  | n + 1, e :: es, .cons t ts => chkT c f n e t && chkTs c f n es ts
  | _, _, _ => false
end
def notSet : Expr → Bool
  | .Set _ _ _ => false
  | _ => true
def chkIt (c : Ck) (f : Expr → E → Bool) (tg e : Expr) (it : It) : Bool := notSet e && match it with
  | .sq i => f e i
  | .rng is => (match e with
    | .Call (.Name x _) [a] [] _ => decide (x = "range") && blt c "range" && (match is with
      | .cons i .nil => plainE a && f a i
      | _ => false)
    | .Call (.Name x _) [a, b] [] _ => decide (x = "range") && blt c "range" && (match is with
      | .cons i (.cons j .nil) => plainE a && plainE b && f a i && f b j
      | _ => false)
    | _ => false)
  | .rv i => (match e with
    | .Call (.Name x _) [a] [] _ => decide (x = "reversed") && blt c "reversed" && plainE a && f a i
    | _ => false)
  | .enum i => (match tg, e with
    | .Tuple _ _ _, .Call (.Name x _) [a] [] _ => decide (x = "enumerate") && blt c "enumerate" && plainE a && f a i
    | _, _ => false)
  | .zip i j => (match tg, e with
    | .Tuple _ _ _, .Call (.Name x _) [a, b] [] _ => decide (x = "zip") && blt c "zip" && plainE a && plainE b && f a i && f b j
    | _, _ => false)
  | _ => false
def blkC (c : Ck) (scope : Scope) : Ck := { c with sc := relS scope c.sc, st := (scope.names.filter fun p => p.2 == .local || p.2 == .cell).map (·.1) }
def blkOk (c : Ck) (scope : Scope) (sl : List Nat) : Bool :=
  decide (scope.kind = .function) && scope.names.all (fun y => decide (scope.names.lookup y.1 = some y.2)) && sl.all (fun i => (c.N[i]?).isSome)
  && scope.names.all (fun y => match y.2 with
    | .free => (match c.sc.names.lookup y.1 with | some .cell => true | some .free => true | _ => false)
    | .local => (sl.filterMap fun i => c.N[i]?).contains y.1 || !(c.N.contains y.1)
    | .cell => (sl.filterMap fun i => c.N[i]?).contains y.1 || !(c.N.contains y.1)
    | _ => true)
/-- a list comprehension whose list is changed later -/
def chkOwn (c : Ck) (f fb : Expr → E → Bool) (elt tg iter : Expr) (ifs : List Expr) (scope : Scope) (o : B1) (a : E) : Bool := match o, a with
  | .listM, .lc it t cond x => chkIt c f tg iter it && blkOk c scope t.slots && chkT (blkC c scope) fb 8 tg t && oneIf fb ifs cond && fb elt x
  | _, _ => false
def chkE : Nat → Ck → Expr → E → Bool
  | 0, _, _, _ => false
  | n + 1, c, e, i => match i with
    | .var j => (match e with
      | .Name x _ => decide (c.N[j]? = some x) && visB c.sc x && okN x
      | _ => false)
    | .bad => true
    | .c d => (match e with
      | .Constant q _ _ => (match cD q with | some d' => D.same d' d | none => false)
      | _ => false)
    | .tup is => (match e with
      | .Tuple es _ _ => decide (es.length ≤ 1000) && chkEs (chkE n c) es is
      | _ => false)
    | .lstF is => (match e with
      | .List es _ => decide (es.length ≤ 1000) && chkEs (chkE n c) es is
      | _ => false)
    | .lstM is => (match e with
      | .List es _ => decide (es.length ≤ 1000) && chkEs (chkE n c) es is
      | _ => false)
    | .dctM => (match e with
      | .Dict [] [] _ => true
      | _ => false)
    | .dct1 a b => (match e with
      | .Dict [some x] [y] _ => chkE n c x a && chkE n c y b
      | _ => false)
    | .ix a b => (match e with
      | .Subscript x y _ => notSlice y && chkE n c x a && chkE n c y b
      | _ => false)
    | .slc a l u => (match e with
      | .Subscript x (.Slice lo hi none _) _ => chkE n c x a && chkO (chkE n c) lo l && chkO (chkE n c) hi u
      | _ => false)
    | .rev a => (match e with
      | .Subscript x (.Slice none none (some (.UnaryOp .USub (.Constant (.int 1) _ _) _)) _) _ => chkE n c x a
      | _ => false)
    | .bin o a b => (match e with
      | .BinOp x p y _ => decide (p = opOf o) && chkE n c x a && chkE n c y b
      | _ => false)
    | .neg a => (match e with
      | .UnaryOp .USub x _ => chkE n c x a
      | _ => false)
    | .not a => (match e with
      | .UnaryOp .Not x _ => notIf x && chkE n c x a
      | _ => false)
    | .cmp o a b => (match e with
      | .Compare x [p] [y] _ => decide (p = cmpOf o) && plainM y && chkE n c x a && chkE n c y b
      | _ => false)
    | .rcmp neg a b => chkE n c e (.cmp (if neg then .ne else .eq) (.b1 .repr a) (.b1 .repr b))
    | .chn o p a b z => (match e with
      | .Compare x [q, r] [y, u] _ => decide (q = cmpOf o) && decide (r = cmpOf p) && plainM u && chkE n c x a && chkE n c y b && chkE n c u z
      | _ => false)
    | .and_ a b => (match e with
      | .BoolOp .And (x :: y :: rest) pos => notIf x && chkE n c x a && (match rest with
        | [] => notIf y && chkE n c y b
        | _ :: _ => (match b with | .and_ _ _ => chkE n c (.BoolOp .And (y :: rest) pos) b | _ => false))
      | _ => false)
    | .or_ a b => (match e with
      | .BoolOp .Or (x :: y :: rest) pos => notIf x && chkE n c x a && (match rest with
        | [] => notIf y && chkE n c y b
        | _ :: _ => (match b with | .or_ _ _ => chkE n c (.BoolOp .Or (y :: rest) pos) b | _ => false))
      | _ => false)
    | .ite a b z => (match e with
      | .IfExp x y u _ => notIf x && chkE n c x a && chkE n c y b && chkE n c u z
      | _ => false)
    | .b1 o a => (match e with
      | .Call (.Name x _) [y] [] _ => (match b1n o with
        | some nm => decide (x = nm) && blt c nm && plainE y && chkE n c y a
        | none => (match o, y with
          | .sset, .Call (.Name z _) [u] [] _ => decide (x = "sorted") && decide (z = "set") && blt c "sorted" && blt c "set" && plainE u && chkE n c u a
          | _, _ => false))
      | .ListComp elt [⟨tg, iter, ifs, 0⟩] scope _ => chkOwn c (chkE n c) (chkE n (blkC c scope)) elt tg iter ifs scope o a
      | .Call (.Name x _) [y] [⟨some kn, .Name z _, _⟩] _ => decide (o = .slen) && decide (x = "sorted") && decide (kn = "key") && decide (z = "len") && blt c "sorted" && blt c "len" && plainE y && chkE n c y a
      | _ => false)
    | .b2 o a b => (match e with
      | .Call (.Name x _) [y, z] [] _ => decide (x = b2n o) && blt c (b2n o) && plainE y && plainE z && chkE n c y a && chkE n c z b
      | _ => false)
    | .lc it t cond x => (match e with
      | .ListComp elt [⟨tg, iter, ifs, 0⟩] scope _ => chkIt c (chkE n c) tg iter it && blkOk c scope t.slots && chkT (blkC c scope) (chkE n (blkC c scope)) 8 tg t && oneIf (chkE n (blkC c scope)) ifs cond && chkE n (blkC c scope) elt x
      | _ => false)
    | .dc it t cond ky v => (match e with
      | .DictComp kx vx [⟨tg, iter, ifs, 0⟩] scope _ => chkIt c (chkE n c) tg iter it && blkOk c scope t.slots && chkT (blkC c scope) (chkE n (blkC c scope)) 8 tg t && oneIf (chkE n (blkC c scope)) ifs cond && chkE n (blkC c scope) kx ky && chkE n (blkC c scope) vx v
      | _ => false)
    | .call _ f is => (match e with
      | .Call (.Name x _) es [] _ => decide (x = f) && glb c f && decide (c.fns.lookup f = some is.len) && chkEs (chkE n c) es is
      | _ => false)
    | .isE neg a => (match e with
      | .Compare x [p] [.Dict [] [] _] _ => decide (p = if neg then .NotEq else .Eq) && chkE n c x a
      | _ => false)
    | .isi ts a => (match e, ts with
      | .Call (.Name x _) [y, .Name z _] [] _, [t] => decide (x = "isinstance") && blt c "isinstance" && decide (z = t) && blt c t && tyS.any (fun p => decide (p.1 = t)) && plainE y && chkE n c y a
      | _, _ => false)
    | .bm m o is => (match e with
      | .Call (.Attribute x nm p) es [] pos => (match bmn m with
        | some (mn, q) => decide (nm = mn) && decide (es.length = q) && plainO x && (p.endLine == pos.line) && chkE n c x o && chkEs (chkE n c) es is
        | none => false)
      | _ => false)
    | _ => false

/-! ### the checker is right -/
structure G3 (G : Gx) (W : WX) (cl : Cl) (X : Cx) (e : Expr) (i : E) : Prop where
  pe : PE X e (tE G W cl i)
  pt : notIf e = true → PT X e (tT G W cl i)
  pw : ∀ op es pos, e = .BoolOp op es pos → PW X e (tT G W cl i)
def Good (G : Gx) (cl : Cl) (k : Nat) (c : Ck) (f : Expr → E → Bool) : Prop := ∀ e i, f e i = true → ∀ rs W X, Gd { G with rs := rs } W k c.N c.sc c.st X → G3 { G with rs := rs } W cl X e i
theorem G3.plain {e : Expr} {i : E} (g : Gd G W k N sc st X) (h : PE X e (tE G W cl i)) (p : plainT e = true) : G3 G W cl X e i :=
  ⟨h, fun _ => tT_of g h p, fun op es pos q => by subst q; cases p⟩
theorem G3.both {e : Expr} {i : E} (h : PE X e (tE G W cl i) ∧ PT X e (tT G W cl i)) (p : ∀ op es pos, e ≠ .BoolOp op es pos) : G3 G W cl X e i :=
  ⟨h.1, fun _ => h.2, fun op es pos q => (p op es pos q).elim⟩
theorem G3.bool {op : BoolOp} {es : List Expr} {pos : Pos} {i : E} (h : PE X (.BoolOp op es pos) (tE G W cl i) ∧ PW X (.BoolOp op es pos) (tT G W cl i)) : G3 G W cl X (.BoolOp op es pos) i :=
  ⟨h.1, fun _ => h.2.pt, fun _ _ _ _ => h.2⟩
variable {c : Ck} {f : Expr → E → Bool} {rs : List Addr} {fns : List (Str × Nat)} {fre : Nv}
theorem es_ok (gf : Good G cl k c f) (g : Gd { G with rs := rs } W k c.N c.sc c.st X) : ∀ {es : List Expr} {is : Es}, chkEs f es is = true → PA X es (tEs { G with rs := rs } W cl is) ∧ es.all plainE = true ∧ is.len = es.length
  | [], .nil, _ => ⟨x_nil, rfl, rfl⟩
  | [], .cons _ _, h => by simp [chkEs] at h
  | _ :: _, .nil, h => by simp [chkEs] at h
  | e :: es, .cons i is, h => by
    simp only [chkEs, Bool.and_eq_true] at h
    obtain ⟨⟨h1, h2⟩, h3⟩ := h
    obtain ⟨q1, q2, q3⟩ := es_ok gf g h3
    exact ⟨x_cons (gf e i h2 rs W X g).pe q1 h1, by simp [h1, q2], by simp [Es.len, q3]⟩
theorem o_ok (gf : Good G cl k c f) (g : Gd { G with rs := rs } W k c.N c.sc c.st X) {o : Option Expr} {i : E} (h : chkO f o i = true) : partOf cl { G with rs := rs } W o i X := by
  cases o with
  | none =>
    unfold chkO at h
    split at h <;> first | rfl | (simp at h; done) | contradiction
  | some e =>
    exact (gf e i h rs W X g).pe
theorem if_ok (gf : Good G cl k c f) (g : Gd { G with rs := rs } W k c.N c.sc c.st X) {l : List Expr} {i : E} (h : oneIf f l i = true) : PTs X l (tT { G with rs := rs } W cl i) := by
  unfold oneIf at h
  split at h
  · refine ⟨fun pins s σ H Q I q => pts_nil.run pins s σ H Q I ?_⟩
    obtain ⟨ι, ρ, q, er, rq, f⟩ := q
    exact f ι H .refl rq
  · rw [Bool.and_eq_true] at h
    exact pts_one ((gf _ _ h.2 rs W X g).pt h.1)
  · cases h
theorem loc_of {x : Str} (h : locB sc x = true) : Loc sc x := by
  unfold locB at h
  split at h
  · exact .inl ‹_›
  · exact .inr ‹_›
  · cases h
theorem vis_of {x : Str} (h : visB sc x = true) : Vis sc x := by
  unfold visB at h
  split at h
  · exact .inl ‹_›
  · exact .inr (.inl ‹_›)
  · exact .inr (.inr ‹_›)
  · cases h
theorem t_ok (gf : Good G cl k c f) (g : Gd { G with rs := rs } W k c.N c.sc c.st X) : ∀ n, (∀ e t, chkT c f n e t = true → PG X e (tG { G with rs := rs } cl t)) ∧ (∀ es ts, chkTs c f n es ts = true → es.all plainG = true → PGs X es (tGs { G with rs := rs } cl ts)) := by
  intro n
  induction n with
  | zero => exact ⟨fun e t h => by simp [chkT] at h, fun es ts h => by simp [chkTs] at h⟩
  | succ n ih =>
    refine ⟨fun e t h => ?_, fun es ts h pl => ?_⟩
    · unfold chkT at h
      cases t with
      | nm i =>
        dsimp only at h
        split at h
        · simp only [Bool.and_eq_true, decide_eq_true_eq] at h
          exact g_nm g h.1.1 (loc_of h.1.2) (by simpa using h.2)
        · cases h
      | tp ts =>
        dsimp only at h
        split at h
        · simp only [Bool.and_eq_true, decide_eq_true_eq] at h
          exact g_tp g (ih.2 _ _ h.2 h.1.1) h.1.1 h.1.2
        · cases h
      | sub o i =>
        dsimp only at h
        split at h
        · simp only [Bool.and_eq_true] at h
          exact g_sub g (gf _ _ h.1.2 rs W X g).pe (gf _ _ h.2 rs W X g).pe h.1.1
        · cases h
      | fld => cases h
    · unfold chkTs at h
      split at h
      · rename_i e2; cases e2
      · exact g_nil
      · rename_i n' e es t ts hn
        cases hn
        simp only [Bool.and_eq_true] at h
        rw [List.all_cons, Bool.and_eq_true] at pl
        exact g_cons (ih.1 _ _ h.1) (ih.2 _ _ h.2 pl.2) pl.1
      · cases h

theorem gl_of {x : Str} (g : Gd G W k c.N c.sc c.st X) (h : glb c x = true) : Gl X x := by
  unfold glb at h
  rw [decide_eq_true_eq, ← g.hsc] at h
  exact h
theorem blt_of {x : Str} (hy : Hy G cl k c.fns c.fre) (g : Gd { G with rs := rs } W k c.N c.sc c.st X) (h : blt c x = true) : Gl X x ∧ X.mg x = none := by
  unfold blt at h
  rw [Bool.and_eq_true] at h
  refine ⟨gl_of g h.1, ?_⟩
  rw [g.hm]
  exact hy.no x (by simpa using h.2)
theorem foldNo {iter : Expr} {env : Env} (h : notSet iter = true) : ∀ x, foldedSetIterable iter env x = pure x := by
  intro x
  cases iter <;> first | rfl | (cases h)
theorem it_ok {tg : Expr} (hy : Hy G cl k c.fns c.fre) (gf : Good G cl k c f) (g : Gd { G with rs := rs } W k c.N c.sc c.st X) {e : Expr} {it : It} (h : chkIt c f tg e it = true) : PI X tg e (tI { G with rs := rs } W cl it) ∧ notSet e = true := by
  unfold chkIt at h
  rw [Bool.and_eq_true] at h
  refine ⟨?_, h.1⟩
  have h := h.2
  cases it with
  | sq i => exact x_sq g (gf _ _ h rs W X g).pe
  | rng is =>
    dsimp only at h
    split at h
    · simp only [Bool.and_eq_true, decide_eq_true_eq] at h
      obtain ⟨⟨rfl, h1⟩, h2⟩ := h
      obtain ⟨q1, q2⟩ := blt_of hy g h1
      split at h2
      · rw [Bool.and_eq_true] at h2
        exact x_rng1 g q1 q2 (gf _ _ h2.2 rs W X g).pe h2.1
      · cases h2
    · simp only [Bool.and_eq_true, decide_eq_true_eq] at h
      obtain ⟨⟨rfl, h1⟩, h2⟩ := h
      obtain ⟨q1, q2⟩ := blt_of hy g h1
      split at h2
      · simp only [Bool.and_eq_true] at h2
        exact x_rng2 g q1 q2 (gf _ _ h2.1.2 rs W X g).pe (gf _ _ h2.2 rs W X g).pe h2.1.1.1 h2.1.1.2
      · cases h2
    · cases h
  | rv i =>
    dsimp only at h
    split at h
    · simp only [Bool.and_eq_true, decide_eq_true_eq] at h
      obtain ⟨⟨⟨rfl, h1⟩, h2⟩, h3⟩ := h
      obtain ⟨q1, q2⟩ := blt_of hy g h1
      exact x_rv g q1 q2 (gf _ _ h3 rs W X g).pe h2
    · cases h
  | enum i =>
    dsimp only at h
    split at h
    · simp only [Bool.and_eq_true, decide_eq_true_eq] at h
      obtain ⟨⟨⟨rfl, h1⟩, h2⟩, h3⟩ := h
      obtain ⟨q1, q2⟩ := blt_of hy g h1
      exact x_enum g q1 q2 (gf _ _ h3 rs W X g).pe h2
    · cases h
  | zip i j =>
    dsimp only at h
    split at h
    · simp only [Bool.and_eq_true, decide_eq_true_eq] at h
      obtain ⟨⟨⟨⟨⟨rfl, h1⟩, h2⟩, h3⟩, h4⟩, h5⟩ := h
      obtain ⟨q1, q2⟩ := blt_of hy g h1
      exact x_zip g q1 q2 (gf _ _ h4 rs W X g).pe (gf _ _ h5 rs W X g).pe h2 h3
    · cases h
  | enumz => cases h
  | keys => cases h
  | vals => cases h
  | items => cases h
theorem bn_of {nm : Str} {u : Value} (q : Gl X nm ∧ X.mg nm = none) (bt : bootBuiltins nm = some u) (nn : nm ≠ "__name__") (nd : (nm == ("__debug__" : Str)) = false) : Bn X nm u := ⟨q.1, q.2, bt, nn, nd⟩
theorem b1_ok {o : B1} {nm : Str} {y : Expr} {a : E} {p pos : Pos} (hy : Hy G cl k c.fns c.fre) (g : Gd { G with rs := rs } W k c.N c.sc c.st X) (h1 : b1n o = some nm) (h2 : blt c nm = true) (pl : plainE y = true) (ha : PE X y (tE { G with rs := rs } W cl a)) :
    PE X (.Call (.Name nm p) [y] [] pos) (tE { G with rs := rs } W cl (.b1 o a)) := by
  have q := blt_of hy g h2
  have hK : X.K = ({ G with rs := rs } : Gx).K := g.hK
  have bi : ∀ {id : String}, Bn X nm (.builtin id) → CallR X (.builtin id) (rC1 { G with rs := rs } W fun h d => b1D h o d) → PE X (.Call (.Name nm p) [y] [] pos) (tE { G with rs := rs } W cl (.b1 o a)) :=
    fun b hc => x_call1 (id := "") g (fun _ _ => rfl) ha pl fun t ht => call_bn b hc ht pl rfl
  have ty : ∀ {id : String}, Bn X nm (.type id) → CallR X (.type id) (rC1 { G with rs := rs } W fun h d => b1D h o d) → PE X (.Call (.Name nm p) [y] [] pos) (tE { G with rs := rs } W cl (.b1 o a)) :=
    fun b hc => x_call1 (id := "") g (fun _ _ => rfl) ha pl fun t ht => call_ty b hc ht pl rfl
  cases o <;> (try (cases h1; done)) <;> cases h1
  · exact bi (bn_of q boot_len (by decide) (by decide)) (c_len g.hK g.hP g.hw)
  · exact ty (bn_of q PyProof.Rows.boot_tuple (by decide) (by decide)) (c_tuple hK)
  · exact ty (bn_of q PyProof.Rows.boot_list (by decide) (by decide)) (c_list g)
  · exact ty (bn_of q PyProof.Rows.boot_list (by decide) (by decide)) (c_listM g)
  · exact bi (bn_of q PyProof.Rows.boot_sorted (by decide) (by decide)) (c_sorted g)
  · exact bi (bn_of q PyProof.Rows.boot_min (by decide) (by decide)) (c_min1 g)
  · exact bi (bn_of q PyProof.Rows.boot_max (by decide) (by decide)) (c_max1 g)
  · exact bi (bn_of q PyProof.Rows.boot_sum (by decide) (by decide)) (c_sum g)
  · exact bi (bn_of q PyProof.Rows.boot_all (by decide) (by decide)) (c_all g)
  · exact bi (bn_of q PyProof.Rows.boot_any (by decide) (by decide)) (c_any g)
  · exact bi (bn_of q PyProof.Rows.boot_abs (by decide) (by decide)) c_abs
  · exact ty (bn_of q PyProof.Rows.boot_int (by decide) (by decide)) c_int
  · exact ty (bn_of q PyProof.Rows.boot_str (by decide) (by decide)) c_strI
  · exact bi (bn_of q PyProof.Rows.boot_repr (by decide) (by decide)) (c_repr g)

theorem b2_ok {o : B2} {y z : Expr} {a b : E} {p pos : Pos} (hy : Hy G cl k c.fns c.fre) (g : Gd { G with rs := rs } W k c.N c.sc c.st X) (h2 : blt c (b2n o) = true) (pl : plainE y = true) (pl2 : plainE z = true)
    (ha : PE X y (tE { G with rs := rs } W cl a)) (hb : PE X z (tE { G with rs := rs } W cl b)) : PE X (.Call (.Name (b2n o) p) [y, z] [] pos) (tE { G with rs := rs } W cl (.b2 o a b)) := by
  have q := blt_of hy g h2
  have ps : [z].all plainE = true := by rw [List.all_cons, pl2]; rfl
  cases o
  · exact x_call2 g (fun _ _ => rfl) ha hb pl pl2 fun t ht => call_bn (bn_of q PyProof.Rows.boot_min (by decide) (by decide)) (c_min2 g) ht pl ps
  · exact x_call2 g (fun _ _ => rfl) ha hb pl pl2 fun t ht => call_bn (bn_of q PyProof.Rows.boot_max (by decide) (by decide)) (c_max2 g) ht pl ps
theorem bm_ok {m : Bm} {mn : Str} {q : Nat} {x : Expr} {es : List Expr} {o : E} {is : Es} {p pos : Pos} (gf : Good G cl k c f) (g : Gd { G with rs := rs } W k c.N c.sc c.st X) (h1 : bmn m = some (mn, q)) (h2 : es.length = q) (po : plainO x = true) (hl : (p.endLine == pos.line) = true)
    (hx : PE X x (tE { G with rs := rs } W cl o)) (he : chkEs f es is = true) : PE X (.Call (.Attribute x mn p) es [] pos) (tE { G with rs := rs } W cl (.bm m o is)) := by
  have isl : ∀ {m : Bm}, (m = .append ∨ m = .extend ∨ m = .pop ∨ m = .popAt) → ∀ h d, bmOk h m d = true → ∃ xs, lstAt h d = some xs := by
    rintro m hm h d e
    have : (lstAt h d).isSome = true := by rcases hm with rfl | rfl | rfl | rfl <;> exact e
    exact Option.isSome_iff_exists.mp this
  have one : ∀ {y : Expr} {es : List Expr} {is : Es}, chkEs f (y :: es) is = true → es = [] → ∃ i, is = .cons i .nil ∧ plainE y = true ∧ PE X y (tE { G with rs := rs } W cl i) := by
    intro y es is h e
    subst e
    cases is with
    | nil => simp [chkEs] at h
    | cons i is =>
      cases is with
      | nil =>
        simp only [chkEs, Bool.and_eq_true] at h
        exact ⟨i, rfl, h.1.1, (gf _ _ h.1.2 rs W X g).pe⟩
      | cons => simp [chkEs] at h
  obtain ⟨ea, eb, -⟩ := es_ok gf g he
  cases m <;> (try (cases h1; done)) <;> cases h1
  · match es, h2 with
    | [y], _ =>
      obtain ⟨i, rfl, h3, h4⟩ := one he rfl
      exact x_meth1 g hx h4 po h3 hl F.slot_list_append F.type_list_append (isl (.inl rfl)) m_append
  · match es, h2 with
    | [y], _ =>
      obtain ⟨i, rfl, h3, h4⟩ := one he rfl
      exact x_meth1 g hx h4 po h3 hl F.slot_list_extend F.type_list_extend (isl (.inr (.inl rfl))) m_extend
  · match es, h2 with
    | [], _ =>
      cases is with
      | nil => exact x_meth0 g hx po hl F.slot_list_pop F.type_list_pop (isl (.inr (.inr (.inl rfl)))) m_pop
      | cons => simp [chkEs] at he
  · match es, h2 with
    | [y], _ =>
      obtain ⟨i, rfl, h3, h4⟩ := one he rfl
      exact x_meth1 g hx h4 po h3 hl F.slot_list_pop F.type_list_pop (isl (.inr (.inr (.inr rfl)))) m_popAt
  · match es, h2 with
    | [y], _ =>
      rw [List.all_cons, Bool.and_eq_true] at eb
      exact x_dm g F.slot_dict_get F.type_dict_get (mt_dget g) (fun _ _ e => e) hx ea po hl (few eb.1) (star_cons eb.1) rfl
  · match es, h2 with
    | [y, z], _ =>
      rw [List.all_cons, List.all_cons, Bool.and_eq_true, Bool.and_eq_true] at eb
      exact x_dm g F.slot_dict_get F.type_dict_get (mt_dget3 g) (fun _ _ e => e) hx ea po hl (few2 eb.1 eb.2.1) (star_cons eb.1) (by rw [star_cons eb.2.1]; rfl)
  · match es, h2 with
    | [y, z], _ =>
      rw [List.all_cons, List.all_cons, Bool.and_eq_true, Bool.and_eq_true] at eb
      exact x_dm g F.slot_dict_setdefault F.type_dict_setdefault (mt_setd g) (fun h d e => dctAt_is e) hx ea po hl (few2 eb.1 eb.2.1) (star_cons eb.1) (by rw [star_cons eb.2.1]; rfl)
/-- a block's names -/
theorem blk_ok {scope : Scope} {sl : List Nat} (h : blkOk c scope sl = true) : ∃ own, BlkOk c.N c.sc scope own ∧ own.map (·.2) = sl := by
  unfold blkOk at h
  simp only [Bool.and_eq_true, decide_eq_true_eq, List.all_eq_true] at h
  obtain ⟨⟨⟨h1, h2⟩, h3⟩, h4⟩ := h
  refine ⟨sl.filterMap fun i => (c.N[i]?).map fun x => (x, i), ⟨h1, h2, ?_, ?_, ?_⟩, ?_⟩
  · rintro ⟨x, i⟩ m
    obtain ⟨j, -, e⟩ := List.mem_filterMap.mp m
    cases q : c.N[j]? with
    | none => rw [q] at e; cases e
    | some z => rw [q] at e; cases e; exact q
  · rintro ⟨x, kd⟩ m e
    have e : kd = .free := e
    subst e
    have h := h4 _ m
    dsimp only at h ⊢
    split at h
    · exact .inl ‹_›
    · exact .inr ‹_›
    · cases h
  · rintro ⟨x, kd⟩ m e
    have key : ((sl.filterMap fun i => c.N[i]?).contains x || !(c.N.contains x)) = true → x ∈ (sl.filterMap fun i => (c.N[i]?).map fun x => (x, i)).map (·.1) ∨ x ∉ c.N := by
      intro h
      rw [Bool.or_eq_true] at h
      rcases h with h | h
      · left
        have h : x ∈ sl.filterMap fun i => c.N[i]? := by simpa using h
        obtain ⟨i, hi, e⟩ := List.mem_filterMap.mp h
        exact List.mem_map.mpr ⟨(x, i), List.mem_filterMap.mpr ⟨i, hi, by rw [e]; rfl⟩, rfl⟩
      · right
        simpa using h
    have h := h4 _ m
    rcases e with e | e
    · have e : kd = .local := e
      subst e; exact key h
    · have e : kd = .cell := e
      subst e; exact key h
  · clear h4
    induction sl with
    | nil => rfl
    | cons i sl ih =>
      have h := h3 i (by simp)
      obtain ⟨x, e⟩ := Option.isSome_iff_exists.mp h
      rw [List.filterMap_cons, e]
      exact congrArg (i :: ·) (ih fun j hj => h3 j (by simp [hj]))
theorem blk_st {scope : Scope} (hu : ∀ y ∈ scope.names, scope.names.lookup y.1 = some y.2) : ∀ x ∈ (blkC c scope).st, (scope.names.lookup x == some .cell) = true ∨ (relS scope c.sc).names.lookup x = some .local := by
  intro x m
  obtain ⟨⟨y, kd⟩, m2, rfl⟩ := List.mem_map.mp m
  obtain ⟨m3, e⟩ := List.mem_filter.mp m2
  have hu := hu _ m3
  rw [Bool.or_eq_true] at e
  rcases e with e | e
  · right
    have e : kd = .local := by simpa using e
    subst e
    exact lookup_relS_keep (by decide) hu
  · left
    have e : kd = .cell := by simpa using e
    subst e
    rw [hu]; rfl

theorem c_ok {q : Const} {d : D} {j : Nat} {pos : Pos} (h : cD q = some d) : PE X (.Constant q j pos) (tE G W cl (.c d)) := by
  cases q <;> cases h
  · exact x_const pe_non fun _ _ => .non
  · exact x_const pe_bl fun _ _ => .bl _
  · exact x_const pe_int fun _ _ => .int _
  · exact x_const pe_str fun _ _ => .str _
theorem FinV.le {r r' : R D} {Q : VK} {ι : List Addr} {H : Hp} {σ : MSt} (h : r' = .er ∨ r' = r) (f : FinV G W ι H σ r' Q) : FinV G W ι H σ r Q := by
  rcases h with rfl | rfl
  · exact f.elim
  · exact f
theorem FinB.le {r r' : R Bool} {Q : Bool → Hp → Prop} {ι : List Addr} {H : Hp} {σ : MSt} (h : r' = .er ∨ r' = r) (f : FinB G W ι H σ r' Q) : FinB G W ι H σ r Q := by
  rcases h with rfl | rfl
  · exact f.elim
  · exact f
theorem tst_le {r r' : R D} (h : r' = .er ∨ r' = r) : tst r' = .er ∨ tst r' = tst r := by
  rcases h with rfl | rfl
  · exact .inl rfl
  · exact .inr rfl
theorem view_strU {q : Hq} {x : Str} : view q (.str x) = .str x := rfl
theorem rcmp_le (neg : Bool) (a b : E) (ρ : Ev) (q : Hq) : evE cl (.rcmp neg a b) ρ q = .er ∨ evE cl (.rcmp neg a b) ρ q = evE cl (.cmp (if neg then .ne else .eq) (.b1 .repr a) (.b1 .repr b)) ρ q := by
  have e1 : evE cl (.rcmp neg a b) ρ q = (evE cl a ρ q).bind fun x h1 => if shw (view h1 x) then (evE cl b ρ h1).bind fun y h2 => if shw (view h2 y) && D.same (view h1 x) (view h2 y) then .ok (.bl (!neg)) h2 else .er else .er := by
    rw [evE]
  have e2 : evE cl (.cmp (if neg then .ne else .eq) (.b1 .repr a) (.b1 .repr b)) ρ q = ((evE cl a ρ q).bind fun x h1 => if shw (view h1 x) then .ok (.str (shown (view h1 x))) h1 else .er).bind fun x h1 =>
      ((evE cl b ρ h1).bind fun y h2 => if shw (view h2 y) then .ok (.str (shown (view h2 y))) h2 else .er).bind fun y h2 => R.of ((cmpD h2 (if neg then .ne else .eq) x y).map .bl) h2 := by
    rw [evE, evE]
    congr 1
  rw [e1, e2]
  cases evE cl a ρ q with
  | er => exact .inl rfl
  | xc x h1 => exact .inr rfl
  | ok x h1 =>
    simp only [R.bind_ok]
    by_cases s1 : shw (view h1 x) = true
    · rw [if_pos s1, if_pos s1, R.bind_ok]
      cases evE cl b ρ h1 with
      | er => exact .inl rfl
      | xc y h2 => exact .inr rfl
      | ok y h2 =>
        simp only [R.bind_ok]
        by_cases s2 : shw (view h2 y) = true
        · by_cases s3 : D.same (view h1 x) (view h2 y) = true
          · right
            rw [if_pos (by rw [s2, s3]; rfl), if_pos s2, R.bind_ok]
            have e := D.same_eq _ _ s3
            rw [e]
            have key : eqD h2 (.str (shown (view h2 y))) (.str (shown (view h2 y))) = some true := by
              unfold eqD
              rw [view_strU]
              simp
            rw [ec_of (neg := neg) rfl, key]
            cases neg <;> rfl
          · left
            rw [if_neg (by rw [s2]; simpa using s3)]
        · left
          rw [if_neg (by simp [s2])]
    · left
      rw [if_neg s1]
theorem x_bad {e : Expr} : G3 G W cl X e .bad := ⟨⟨fun _ _ _ _ _ _ ⟨_, _, _, _, _, f⟩ => f.elim⟩, fun _ => ⟨fun _ _ _ _ _ _ ⟨_, _, _, _, _, f⟩ => f.elim⟩, fun _ _ _ _ => ⟨fun _ _ _ _ _ _ _ ⟨_, _, _, _, _, f⟩ => f.elim⟩⟩
theorem chk_ok (hy : Hy G cl k fns fre) : ∀ n c, c.fns = fns → c.fre = fre → Good G cl k c (chkE n c) := by
  intro n
  induction n with
  | zero => intro c _ _ e i h; simp [chkE] at h
  | succ n ih =>
    intro c hf hr e i h rs W X g
    have gf : Good G cl k c (chkE n c) := ih c hf hr
    have hy' : Hy G cl k c.fns c.fre := by rw [hf, hr]; exact hy
    unfold chkE at h
    cases i with
    | var j =>
      dsimp only at h
      split at h
      · simp only [Bool.and_eq_true, decide_eq_true_eq] at h
        obtain ⟨⟨h1, h2⟩, h3⟩ := h
        unfold okN at h3
        rw [Bool.and_eq_true, Bool.not_eq_true', Bool.not_eq_true'] at h3
        exact .plain g (x_var g h1 (vis_of h2) h3.1 h3.2) rfl
      · cases h
    | bad => exact x_bad
    | c d =>
      dsimp only at h
      split at h
      · split at h
        · rename_i e1
          have := D.same_eq _ _ h
          subst this
          exact .plain g (c_ok e1) rfl
        · cases h
      · cases h
    | tup is =>
      dsimp only at h
      split at h
      · rw [Bool.and_eq_true, decide_eq_true_eq] at h
        obtain ⟨q1, q2, q3⟩ := es_ok gf g h.2
        exact .plain g (x_tup q1 h.1 fun ρ q ds q' e => by rw [evEs_len e, q3]) rfl
      · cases h
    | lstF is =>
      dsimp only at h
      split at h
      · rw [Bool.and_eq_true, decide_eq_true_eq] at h
        obtain ⟨q1, q2, q3⟩ := es_ok gf g h.2
        exact .plain g (x_lstF q1 h.1 fun ρ q ds q' e => by rw [evEs_len e, q3]) rfl
      · cases h
    | lstM is =>
      dsimp only at h
      split at h
      · rw [Bool.and_eq_true, decide_eq_true_eq] at h
        obtain ⟨q1, q2, q3⟩ := es_ok gf g h.2
        exact .plain g (x_lstM q1 h.1 fun ρ q ds q' e => by rw [evEs_len e, q3]) rfl
      · cases h
    | dctM =>
      dsimp only at h
      split at h
      · exact .plain g x_dctM rfl
      · cases h
    | dct1 a b =>
      dsimp only at h
      split at h
      · rw [Bool.and_eq_true] at h
        exact .plain g (x_dct1 g (fun rs' => (gf _ _ h.1 (rs' ++ rs) never X g.nev.ad).pe) (fun rs' => (gf _ _ h.2 (rs' ++ rs) never X g.nev.ad).pe)) rfl
      · cases h
    | ix a b =>
      dsimp only at h
      split at h
      · simp only [Bool.and_eq_true] at h
        exact .plain g (x_ix g (gf _ _ h.1.2 rs W X g).pe (gf _ _ h.2 rs W X g).pe h.1.1) rfl
      · cases h
    | slc a l u =>
      dsimp only at h
      split at h
      · simp only [Bool.and_eq_true] at h
        exact .plain g (x_slc g (gf _ _ h.1.1 rs W X g).pe (o_ok gf g h.1.2) (o_ok gf g h.2)) rfl
      · cases h
    | rev a =>
      dsimp only at h
      split at h
      · exact .plain g (x_rev g (gf _ _ h rs W X g).pe) rfl
      · cases h
    | bin o a b =>
      dsimp only at h
      split at h
      · simp only [Bool.and_eq_true, decide_eq_true_eq] at h
        obtain ⟨⟨rfl, h1⟩, h2⟩ := h
        exact .plain g (x_bin g (gf _ _ h1 rs W X g).pe (gf _ _ h2 rs W X g).pe) rfl
      · cases h
    | neg a =>
      dsimp only at h
      split at h
      · exact .plain g (x_neg g (gf _ _ h rs W X g).pe) rfl
      · cases h
    | not a =>
      dsimp only at h
      split at h
      · rw [Bool.and_eq_true] at h
        have q := gf _ _ h.2 rs W X g
        exact .both (x_not g q.pe (q.pt h.1)) (fun _ _ _ => by nofun)
      · cases h
    | cmp o a b =>
      dsimp only at h
      split at h
      · simp only [Bool.and_eq_true, decide_eq_true_eq] at h
        obtain ⟨⟨⟨rfl, h0⟩, h1⟩, h2⟩ := h
        exact .both (x_cmp g (gf _ _ h1 rs W X g).pe (gf _ _ h2 rs W X g).pe h0) (fun _ _ _ => by nofun)
      · cases h
    | rcmp neg a b =>
      have q := gf _ _ h rs W X g
      refine ⟨PE.of q.pe ?_, fun t => PT.of (q.pt t) ?_, fun op es pos e => ⟨fun wh pins s σ H Q I hw => (q.pw op es pos e).run wh pins s σ H Q I ?_⟩⟩
      · rintro σ H Q ⟨ι, ρ, hq, er, hr, f⟩
        exact ⟨ι, ρ, hq, er, hr, FinV.le (rcmp_le neg a b ρ hq) f⟩
      · rintro σ H Q ⟨ι, ρ, hq, er, hr, f⟩
        exact ⟨ι, ρ, hq, er, hr, FinB.le (tst_le (rcmp_le neg a b ρ hq)) f⟩
      · obtain ⟨ι, ρ, hq, er, hr, f⟩ := hw
        exact ⟨ι, ρ, hq, er, hr, FinB.le (tst_le (rcmp_le neg a b ρ hq)) f⟩
    | chn o p a b z =>
      dsimp only at h
      split at h
      · simp only [Bool.and_eq_true, decide_eq_true_eq] at h
        obtain ⟨⟨⟨⟨⟨rfl, rfl⟩, h0⟩, h1⟩, h2⟩, h3⟩ := h
        exact .both (x_chn g (gf _ _ h1 rs W X g).pe (gf _ _ h2 rs W X g).pe (gf _ _ h3 rs W X g).pe h0) (fun _ _ _ => by nofun)
      · cases h
    | and_ a b =>
      dsimp only at h
      split at h
      · simp only [Bool.and_eq_true] at h
        obtain ⟨⟨h0, h1⟩, h2⟩ := h
        have qa := gf _ _ h1 rs W X g
        split at h2
        · rw [Bool.and_eq_true] at h2
          have qb := gf _ _ h2.2 rs W X g
          exact .bool (x_and g qa.pe (qa.pt h0) (pe_one qb.pe) (pw_and1 (qb.pt h2.1)))
        · split at h2
          · have qb := gf _ _ h2 rs W X g
            exact .bool (x_and g qa.pe (qa.pt h0) qb.pe (qb.pw _ _ _ rfl))
          · cases h2
      · cases h
    | or_ a b =>
      dsimp only at h
      split at h
      · simp only [Bool.and_eq_true] at h
        obtain ⟨⟨h0, h1⟩, h2⟩ := h
        have qa := gf _ _ h1 rs W X g
        split at h2
        · rw [Bool.and_eq_true] at h2
          have qb := gf _ _ h2.2 rs W X g
          exact .bool (x_or g qa.pe (qa.pt h0) (pe_one qb.pe) (pw_or1 (qb.pt h2.1)))
        · split at h2
          · have qb := gf _ _ h2 rs W X g
            exact .bool (x_or g qa.pe (qa.pt h0) qb.pe (qb.pw _ _ _ rfl))
          · cases h2
      · cases h
    | ite a b z =>
      dsimp only at h
      split at h
      · simp only [Bool.and_eq_true] at h
        obtain ⟨⟨⟨h0, h1⟩, h2⟩, h3⟩ := h
        have qa := gf _ _ h1 rs W X g
        exact ⟨x_ite g (qa.pt h0) (gf _ _ h2 rs W X g).pe (gf _ _ h3 rs W X g).pe, (fun q => nomatch q), (fun _ _ _ q => nomatch q)⟩
      · cases h
    | b1 o a =>
      dsimp only at h
      split at h
      · split at h
        · rename_i nm e1
          simp only [Bool.and_eq_true, decide_eq_true_eq] at h
          obtain ⟨⟨⟨rfl, h1⟩, h2⟩, h3⟩ := h
          exact .plain g (b1_ok hy' g e1 h1 h2 (gf _ _ h3 rs W X g).pe) rfl
        · split at h
          · simp only [Bool.and_eq_true, decide_eq_true_eq] at h
            obtain ⟨⟨⟨⟨⟨rfl, rfl⟩, h1⟩, h2⟩, h3⟩, h4⟩ := h
            exact .plain g (x_sset g (bn_of (blt_of hy' g h1) PyProof.Rows.boot_sorted (by decide) (by decide)) (bn_of (blt_of hy' g h2) PyProof.Rows.boot_set (by decide) (by decide)) (gf _ _ h4 rs W X g).pe h3) rfl
          · cases h
      · rename_i elt tg iter ifs scope pos
        unfold chkOwn at h
        split at h
        · simp only [Bool.and_eq_true] at h
          obtain ⟨⟨⟨⟨h1, h2⟩, h3⟩, h4⟩, h5⟩ := h
          obtain ⟨own, b1, b2⟩ := blk_ok h2
          have hu : ∀ y ∈ scope.names, scope.names.lookup y.1 = some y.2 := b1.uniq
          have gb : Good G cl k (blkC c scope) (chkE n (blkC c scope)) := ih (blkC c scope) hf hr
          obtain ⟨i1, i2⟩ := it_ok (tg := tg) hy' gf g h1
          refine .plain g (x_lcM (st' := (blkC c scope).st) g i1 b1 b2 (blk_st hu) ⟨?_, ?_, ?_⟩ (foldNo i2)) rfl
          · exact fun rs' X' g' => (t_ok gb g' 8).1 _ _ h3
          · exact fun rs' X' g' => if_ok gb g' h4
          · exact fun rs' X' g' => (gb _ _ h5 _ _ X' g').pe
        · cases h
      · simp only [Bool.and_eq_true, decide_eq_true_eq] at h
        obtain ⟨⟨⟨⟨⟨⟨⟨rfl, rfl⟩, rfl⟩, rfl⟩, h1⟩, h2⟩, h3⟩, h4⟩ := h
        obtain ⟨b1, b2⟩ := blt_of hy' g h1
        obtain ⟨b3, b4⟩ := blt_of hy' g h2
        exact .plain g (x_slen g b1 b2 b3 b4 (gf _ _ h4 rs W X g).pe h3) rfl
      · cases h
    | b2 o a b =>
      dsimp only at h
      split at h
      · simp only [Bool.and_eq_true, decide_eq_true_eq] at h
        obtain ⟨⟨⟨⟨⟨rfl, h1⟩, h2⟩, h3⟩, h4⟩, h5⟩ := h
        exact .plain g (b2_ok hy' g h1 h2 h3 (gf _ _ h4 rs W X g).pe (gf _ _ h5 rs W X g).pe) rfl
      · cases h
    | lc it t cond x =>
      dsimp only at h
      split at h
      · simp only [Bool.and_eq_true] at h
        obtain ⟨⟨⟨⟨h1, h2⟩, h3⟩, h4⟩, h5⟩ := h
        rename_i elt tg iter ifs scope pos
        obtain ⟨own, b1, b2⟩ := blk_ok h2
        have hu : ∀ y ∈ scope.names, scope.names.lookup y.1 = some y.2 := b1.uniq
        have gb : Good G cl k (blkC c scope) (chkE n (blkC c scope)) := ih (blkC c scope) hf hr
        obtain ⟨i1, i2⟩ := it_ok (tg := tg) hy' gf g h1
        refine .plain g (x_lc (st' := (blkC c scope).st) g i1 b1 b2 (blk_st hu) ⟨?_, ?_, ?_⟩ (foldNo i2)) rfl
        · exact fun rs' X' g' => (t_ok gb g' 8).1 _ _ h3
        · exact fun rs' X' g' => if_ok gb g' h4
        · exact fun rs' X' g' => (gb _ _ h5 _ _ X' g').pe
      · cases h
    | dc it t cond ky v =>
      dsimp only at h
      split at h
      · simp only [Bool.and_eq_true] at h
        obtain ⟨⟨⟨⟨⟨h1, h2⟩, h3⟩, h4⟩, h5⟩, h6⟩ := h
        rename_i kx vx tg iter ifs scope pos
        obtain ⟨own, b1, b2⟩ := blk_ok h2
        have gb : Good G cl k (blkC c scope) (chkE n (blkC c scope)) := ih (blkC c scope) hf hr
        obtain ⟨i1, i2⟩ := it_ok (tg := tg) hy' gf g h1
        refine .plain g (x_dc (st' := (blkC c scope).st) g i1 b1 b2 (blk_st b1.uniq) ⟨?_, ?_, ?_, ?_⟩ (foldNo i2)) rfl
        · exact fun rs' X' g' => (t_ok gb g' 8).1 _ _ h3
        · exact fun rs' X' g' => if_ok gb g' h4
        · exact fun rs' X' g' => (gb _ _ h5 _ _ X' g').pe
        · exact fun rs' X' g' => (gb _ _ h6 _ _ X' g').pe
      · cases h
    | call m f is =>
      dsimp only at h
      split at h
      · rename_i xx pp es pos
        simp only [Bool.and_eq_true, decide_eq_true_eq] at h
        obtain ⟨⟨⟨rfl, h1⟩, h2⟩, h3⟩ := h
        obtain ⟨fa, fd, ps, F⟩ := hy'.fn _ _ h2
        have F' : FnAt { G with rs := rs } cl k _ is.len fa fd ps := ⟨F.mg, F.kp, F.bd, ⟨F.fn.len, F.fn.run⟩, F.nd⟩
        obtain ⟨q1, q2, q3⟩ := es_ok gf g h3
        cases es with
        | nil =>
          cases is with
          | nil => exact .plain g (x_call0 g F' (gl_of g h1)) rfl
          | cons => simp [chkEs] at h3
        | cons e es =>
          rw [List.all_cons, Bool.and_eq_true] at q2
          exact .plain g (x_call g F' (gl_of g h1) q1 q2.1 q2.2) rfl
      · cases h
    | bm m o is =>
      dsimp only at h
      split at h
      · split at h
        · rename_i mn q e1
          simp only [Bool.and_eq_true, decide_eq_true_eq] at h
          obtain ⟨⟨⟨⟨⟨rfl, h1⟩, h2⟩, h3⟩, h4⟩, h5⟩ := h
          exact .plain g (bm_ok gf g e1 h1 h2 h3 (gf _ _ h4 rs W X g).pe h5) rfl
        · cases h
      · cases h
    | isE neg a =>
      dsimp only at h
      split at h
      · simp only [Bool.and_eq_true, decide_eq_true_eq] at h
        obtain ⟨rfl, h1⟩ := h
        obtain ⟨r1, r2⟩ := x_isE (neg := neg) g (gf _ _ h1 rs W X g).pe
        exact .both ⟨r1, r2⟩ (fun _ _ _ q => nomatch q)
      · cases h
    | isi ts a =>
      dsimp only at h
      split at h
      · simp only [Bool.and_eq_true, decide_eq_true_eq] at h
        obtain ⟨⟨⟨⟨⟨⟨rfl, h1⟩, rfl⟩, h2⟩, h3⟩, h4⟩, h5⟩ := h
        obtain ⟨q, mq, eq⟩ := List.any_eq_true.mp h3
        have eq := of_decide_eq_true eq
        obtain ⟨b1, b2⟩ := blt_of hy' g h1
        obtain ⟨b3, b4⟩ := blt_of hy' g h2
        subst eq
        exact .plain g (x_isi g mq b1 b2 b3 b4 (gf _ _ h5 rs W X g).pe h4) rfl
      · cases h
    | mk => cases h
    | mcall => cases h
    | fld => cases h
end Rx

/-! RxL: the checker of statements and its soundness. -/
namespace Rx
open PySem L2
variable {G : Gx} {W : WX} {cl : Cl} {k : Nat} {N : List Str} {sc : Scope} {st st' : List Str} {X : Cx}
variable {ι ι' : List Addr} {H H' : Hp} {h h' : Hq} {ρ : Ev} {σ σ' : MSt} {v : V} {d : D} {a : Addr} {n : Nat}

/-! ### which stores are swapped -/
def swNames (sc : Scope) (ts : List Expr) : List Str := ts.filterMap fun
  | .Name id pos => if sc.names.lookup id == some .local && pos.line == (ts.head?.map (·.pos.line)).getD 0 then some id else none
  | _ => none
def anyStar (vs : List Expr) : Bool := vs.any fun | .Starred .. => true | _ => false
/-- the outer none: not known -/
def swP (sc : Scope) (tg v : Expr) : Option (Option (List Str)) := match tg, v with
  | .Tuple ts _ _, .Tuple vs _ _ =>
    if (!(ts.length == 2 || ts.length == 3) || vs.length != ts.length) = true then some none
    else if anyStar vs = true then none
    else if ((swNames sc ts).length != ts.length || (swNames sc ts).eraseDups.length != (swNames sc ts).length) = true then some none
    else if vs.all (foldedForSure 8) = true then some none
    else if vs.all (constantsAlone 8) = true then none
    else some (some (swNames sc ts))
  | .Tuple _ _ _, _ => some none
  | .Name _ _, _ => some none
  | .Subscript _ _ _, _ => some none
  | .Attribute _ _ _, _ => some none
  | _, _ => none
theorem swP_ok {tg v : Expr} {env : Env} {r : Option (List Str)} (hk : env.blockKind = .function) (hs : env.scope = sc) (h : swP sc tg v = some r) : swappedStores [tg] v env = pure r := by
  subst hs
  unfold swP at h
  split at h
  · rename_i ts _ _ vs _ _
    unfold swappedStores
    have hb : (env.blockKind != ScopeKind.function) = false := by rw [hk]; rfl
    dsimp only
    rw [hb]
    split at h
    · rename_i c1
      cases h
      rw [if_pos (by rw [Bool.or_false]; exact c1)]
    · rename_i c1
      rw [if_neg (by rw [Bool.or_false]; exact c1)]
      split at h
      · cases h
      · rename_i c2
        change (if anyStar vs = true then pure none else if ((swNames env.scope ts).length != ts.length || (swNames env.scope ts).eraseDups.length != (swNames env.scope ts).length) = true then pure none
          else if vs.all (foldedForSure 8) = true then pure none else if vs.all (constantsAlone 8) = true then do
            unsupported "assign.tuple-of-constant-expressions:order-of-the-stores"
            pure (some (swNames env.scope ts))
          else pure (some (swNames env.scope ts))) = pure r
        rw [if_neg c2]
        split at h
        · rename_i c3
          cases h
          rw [if_pos c3]
        · rename_i c3
          rw [if_neg c3]
          split at h
          · rename_i c4
            cases h
            rw [if_pos c4]
          · rename_i c4
            rw [if_neg c4]
            split at h
            · cases h
            · rename_i c5
              cases h
              rw [if_neg c5]
  · rename_i q
    cases h
    cases v <;> first | rfl | exact (q _ _ _ rfl).elim
  all_goals (first | (cases h; rfl) | cases h)

/-! ### two or three names at once -/
theorem y_par2 {i j : Nat} {x y : Str} {a b : Expr} {es : Es} {px py pt pos : Pos} {kt k2 pt2} {w : Nat} (g : Gd G W k N sc st X) (hi : N[i]? = some x) (hj : N[j]? = some y) (hij : i ≠ j) (hx : sc.names.lookup x = some .local) (hy : sc.names.lookup y = some .local)
    (ha : PA X [a, b] (tEs G W cl es)) (hw : swappedStores [.Tuple [.Name x px, .Name y py] kt pt] (.Tuple [a, b] k2 pt2) X.env = pure (some [x, y])) :
    PS X (.Assign [.Tuple [.Name x px, .Name y py] kt pt] (.Tuple [a, b] k2 pt2) pos) (tS G W cl w (.par [i, j] es)) := by
  refine PS.of (ps_par g.calm (by rw [g.hN]; exact g.nd) (by rw [g.hN]; exact hi) (by rw [g.hN]; exact hj) hij (by rw [g.hsc]; exact hx) (by rw [g.hsc]; exact hy) ha hw) ?_
  rintro D σ H ⟨ι, ρ, hq, er, hr, f⟩
  refine ⟨ι, ρ, hq, er, hr, ?_⟩
  rcases Out.of_inv f with ⟨ds, h1, e1, f1⟩ | ⟨x, h1, e1, f1⟩
  · rw [e1]
    intro ι1 H1 vs x1 r1 q1
    match ds, vs, q1, f1 with
    | [], [], .nil, f1 => exact f1.elim
    | [_], [_], .cons _ .nil, f1 => exact f1.elim
    | [d1, d2], [v1, v2], .cons q1 (.cons q2 .nil), f1 =>
      refine ⟨v1, v2, rfl, ?_⟩
      have f1 : FinO G W ι H (.nx ((ρ.set j (some d2)).set i (some d1)) h1) D := f1
      rw [← List.set_comm _ _ (fun e => hij e.symm)]
      exact f1 ι1 H1 _ x1 r1 (((er.ext x1).set q2).set q1)
    | _ :: _ :: _ :: _, _ :: _ :: _ :: _, .cons _ (.cons _ (.cons _ _)), f1 => exact f1.elim
  · rw [e1]
    exact fun ι1 H1 cls dd x1 r1 q1 => f1 ι1 H1 σ cls dd x1 r1 (er.ext x1) q1

theorem y_par3 {i j l : Nat} {x y z : Str} {a b c : Expr} {es : Es} {px py pz pt pos : Pos} {kt k2 pt2} {w : Nat} (g : Gd G W k N sc st X) (hi : N[i]? = some x) (hj : N[j]? = some y) (hl : N[l]? = some z) (hij : i ≠ j) (hil : i ≠ l) (hjl : j ≠ l)
    (hx : sc.names.lookup x = some .local) (hy : sc.names.lookup y = some .local) (hz : sc.names.lookup z = some .local)
    (ha : PA X [a, b, c] (tEs G W cl es)) (hw : swappedStores [.Tuple [.Name x px, .Name y py, .Name z pz] kt pt] (.Tuple [a, b, c] k2 pt2) X.env = pure (some [x, y, z])) :
    PS X (.Assign [.Tuple [.Name x px, .Name y py, .Name z pz] kt pt] (.Tuple [a, b, c] k2 pt2) pos) (tS G W cl w (.par [i, j, l] es)) := by
  refine PS.of (ps_par3 g.calm (by rw [g.hN]; exact g.nd) (by rw [g.hN]; exact hi) (by rw [g.hN]; exact hj) (by rw [g.hN]; exact hl) hij hil hjl (by rw [g.hsc]; exact hx) (by rw [g.hsc]; exact hy) (by rw [g.hsc]; exact hz) ha hw) ?_
  rintro D σ H ⟨ι, ρ, hq, er, hr, f⟩
  refine ⟨ι, ρ, hq, er, hr, ?_⟩
  rcases Out.of_inv f with ⟨ds, h1, e1, f1⟩ | ⟨x, h1, e1, f1⟩
  · rw [e1]
    intro ι1 H1 vs x1 r1 q1
    match ds, vs, q1, f1 with
    | [], [], .nil, f1 => exact f1.elim
    | [_], [_], .cons _ .nil, f1 => exact f1.elim
    | [_, _], [_, _], .cons _ (.cons _ .nil), f1 => exact f1.elim
    | [d1, d2, d3], [v1, v2, v3], .cons q1 (.cons q2 (.cons q3 .nil)), f1 =>
      refine ⟨v1, v2, v3, rfl, ?_⟩
      have f1 : FinO G W ι H (.nx (((ρ.set l (some d3)).set j (some d2)).set i (some d1)) h1) D := f1
      have e : ((σ.set i (some v1)).set j (some v2)).set l (some v3) = ((σ.set l (some v3)).set j (some v2)).set i (some v1) := by
        rw [List.set_comm (i := i) (j := j) _ _ hij, List.set_comm (i := i) (j := l) _ _ hil, List.set_comm (i := j) (j := l) _ _ hjl]
      rw [e]
      exact f1 ι1 H1 _ x1 r1 ((((er.ext x1).set q3).set q2).set q1)
    | _ :: _ :: _ :: _ :: _, _ :: _ :: _ :: _ :: _, .cons _ (.cons _ (.cons _ (.cons _ _))), f1 => exact f1.elim
  · rw [e1]
    exact fun ι1 H1 cls dd x1 r1 q1 => f1 ι1 H1 σ cls dd x1 r1 (er.ext x1) q1
theorem y_aug {i : Nat} {x : Str} {e : Expr} {ie : E} {px pos : Pos} {w : Nat} (g : Gd G W k N sc st X) (hi : N[i]? = some x) (hx : Loc sc x) (hf : x ∈ st) (he : PE X e (tE G W cl ie)) : PS X (.AugAssign (.Name x px) .Add e pos) (tS G W cl w (.aug (.nm i) .add ie)) := by
  refine PS.of (ps_aug (i := i) (by rw [g.hN]; exact g.nd) (by rw [g.hN]; exact hi) (by rw [g.hsc]; exact hx) he ip_add (g.sto x hf)) ?_
  rintro D σ H ⟨ι, ρ, hq, er, hr, f⟩
  have f : FinO G W ι H (match ρ[i]? with
      | some (some (.int x)) => Out.of (evE cl ie ρ hq) ρ fun y h1 => (match y with
        | .int y => .nx (ρ.set i (some (.int (x + y)))) h1
        | _ => .er)
      | _ => .er) D := f
  split at f
  · rename_i z ez
    obtain ⟨v, h1, h2⟩ := er.at_ i _ ez
    refine ⟨v, h1, ι, ρ, hq, er, hr, ?_⟩
    rcases Out.of_inv f with ⟨d, h1, e1, f1⟩ | ⟨x, h1, e1, f1⟩
    · rw [e1]
      intro ι1 H1 u x1 r1 q1
      cases d <;> try exact f1.elim
      rename_i y
      rw [h2.intD, q1.intD]
      exact ⟨z, y, rfl, rfl, f1 ι1 H1 _ x1 r1 ((er.ext x1).set (.int _))⟩
    · rw [e1]
      exact fun ι1 H1 cls dd x1 r1 q1 => f1 ι1 H1 σ cls dd x1 r1 (er.ext x1) q1
  · exact f.elim

/-! ### handlers -/
def isCmp : Expr → Bool
  | .Compare _ _ _ _ => true
  | _ => false
/-- what a handler may say of the exception in slot i, whose field is f -/
def chkX : Nat → Ck → Nat → Str → Expr → E → Bool
  | 0, _, _, _, _, _ => false
  | n + 1, c, i, f, e, ie => match ie with
    | .var j => (match e with
      | .Name x _ => decide (c.N[j]? = some x) && decide (j ≠ i) && visB c.sc x && okN x
      | _ => false)
    | .c d => (match e with
      | .Constant q _ _ => (match cD q with | some d' => D.same d' d | none => false)
      | _ => false)
    | .tup is => (match e with
      | .Tuple es _ _ => decide (es.length ≤ 1000) && chkEs (chkX n c i f) es is
      | _ => false)
    | .lstF is => (match e with
      | .List es _ => decide (es.length ≤ 1000) && chkEs (chkX n c i f) es is
      | _ => false)
    | .fld o g => (match o, e with
      | .var j, .Attribute (.Name x _) nm _ => decide (nm = f) && decide (g = f) && decide (j = i) && decide (c.N[i]? = some x) && visB c.sc x && okN x
      | _, _ => false)
    | .isi ts o => (match ts, o, e with
      | [t], .var j, .Call (.Name y _) [.Name x _, .Name z _] [] _ => decide (t = "ValueError") && decide (z = "ValueError") && decide (y = "isinstance") && blt c "isinstance" && blt c "ValueError" && decide (j = i) && decide (c.N[i]? = some x) && visB c.sc x && okN x
      | _, _, _ => false)
    | .ite a b z => (match e with
      | .IfExp x y u _ => (plainT x || isCmp x) && chkX n c i f x a && chkX n c i f y b && chkX n c i f u z
      | _ => false)
    | .cmp .eq a b => (match e with
      | .Compare x [.Eq] [y] _ => plainM y && chkX n c i f x a && chkX n c i f y b
      | _ => false)
    | .b1 .len a => (match e with
      | .Call (.Name x _) [y] [] _ => decide (x = "len") && blt c "len" && plainE y && chkX n c i f y a
      | _ => false)
    | _ => false
theorem chkX_ok {c : Ck} {i : Nat} {f : Str} {rs : List Addr} {a C : Addr} {cls : Value} {dx : Option Addr} {oe : Obj} {pn : List (Addr × Obj)} (no : ∀ x ∈ c.fre.blt, G.mg x = none) (S : Sx { G with rs := rs } c.N c.sc (X.suite a ((a, oe) :: pn)) a C cls dx oe f) :
    ∀ n e ie, chkX n c i f e ie = true → PE (X.suite a ((a, oe) :: pn)) e (tX { G with rs := rs } cl a C cls dx f i ie) ∧ ((plainT e || isCmp e) = true → PT (X.suite a ((a, oe) :: pn)) e (tXt { G with rs := rs } cl a C cls dx f i ie)) := by
  have gl : ∀ x, glb c x = true → Gl (X.suite a ((a, oe) :: pn)) x := fun x h => by
    unfold glb at h
    rw [decide_eq_true_eq, ← S.hsc] at h
    exact h
  have bl : ∀ x, blt c x = true → Gl (X.suite a ((a, oe) :: pn)) x ∧ (X.suite a ((a, oe) :: pn)).mg x = none := fun x h => by
    unfold blt at h
    rw [Bool.and_eq_true] at h
    exact ⟨gl x h.1, by rw [S.hm]; exact no x (by simpa using h.2)⟩
  have okn : ∀ {x}, okN x = true → (x == ("__debug__" : Str)) = false ∧ (x == ("__classdict__" : Str)) = false := fun {x} h => by
    unfold okN at h
    rw [Bool.and_eq_true, Bool.not_eq_true', Bool.not_eq_true'] at h
    exact h
  intro n
  induction n with
  | zero => intro e ie h; simp [chkX] at h
  | succ n ih =>
    have es_ : ∀ {es : List Expr} {is : Es}, chkEs (chkX n c i f) es is = true → PA (X.suite a ((a, oe) :: pn)) es (tXs { G with rs := rs } cl a C cls dx f i is) ∧ is.len = es.length := by
      intro es
      induction es with
      | nil =>
        intro is h
        cases is with
        | nil => exact ⟨hx_nil, rfl⟩
        | cons => simp [chkEs] at h
      | cons e es ihs =>
        intro is h
        cases is with
        | nil => simp [chkEs] at h
        | cons i' is =>
          simp only [chkEs, Bool.and_eq_true] at h
          obtain ⟨q1, q2⟩ := ihs h.2
          exact ⟨hx_cons (ih _ _ h.1.2).1 q1 h.1.1, by simp [Es.len, q2]⟩
    intro e ie h
    have fin : ∀ {e : Expr} {ie : E}, PE (X.suite a ((a, oe) :: pn)) e (tX { G with rs := rs } cl a C cls dx f i ie) → isCmp e = false → PE (X.suite a ((a, oe) :: pn)) e (tX { G with rs := rs } cl a C cls dx f i ie) ∧ ((plainT e || isCmp e) = true → PT (X.suite a ((a, oe) :: pn)) e (tXt { G with rs := rs } cl a C cls dx f i ie)) :=
      fun p z => ⟨p, fun q => hx_test S p (by rw [z, Bool.or_false] at q; exact q)⟩
    unfold chkX at h
    split at h
    · split at h
      · simp only [Bool.and_eq_true, decide_eq_true_eq] at h
        obtain ⟨⟨⟨h1, h2⟩, h3⟩, h4⟩ := h
        exact fin (hx_var S h1 h2 (vis_of h3) (okn h4).1 (okn h4).2) rfl
      · cases h
    · split at h
      · split at h
        · rename_i e1
          have := D.same_eq _ _ h
          subst this
          refine fin ?_ rfl
          rename_i q _ _ _ _
          cases q <;> cases e1
          · exact hx_const pe_non fun _ _ => .non
          · exact hx_const pe_bl fun _ _ => .bl _
          · exact hx_const pe_int fun _ _ => .int _
          · exact hx_const pe_str fun _ _ => .str _
        · cases h
      · cases h
    · split at h
      · rw [Bool.and_eq_true, decide_eq_true_eq] at h
        obtain ⟨q1, q2⟩ := es_ h.2
        exact fin (hx_tup q1 h.1 q2) rfl
      · cases h
    · split at h
      · rw [Bool.and_eq_true, decide_eq_true_eq] at h
        obtain ⟨q1, q2⟩ := es_ h.2
        exact fin (hx_lst q1 h.1 q2) rfl
      · cases h
    · split at h
      · simp only [Bool.and_eq_true, decide_eq_true_eq] at h
        obtain ⟨⟨⟨⟨⟨rfl, rfl⟩, rfl⟩, h4⟩, h5⟩, h6⟩ := h
        exact fin (hx_fld S rfl h4 (vis_of h5) (okn h6).1 (okn h6).2) rfl
      · cases h
    · split at h
      · simp only [Bool.and_eq_true, decide_eq_true_eq] at h
        obtain ⟨⟨⟨⟨⟨⟨⟨⟨rfl, rfl⟩, rfl⟩, h1⟩, h2⟩, rfl⟩, h4⟩, h5⟩, h6⟩ := h
        exact fin (hx_isi S rfl h4 (vis_of h5) (okn h6).1 (okn h6).2 (bl _ h1).1 (bl _ h1).2 (bl _ h2).1 (bl _ h2).2) rfl
      · cases h
    · split at h
      · simp only [Bool.and_eq_true] at h
        obtain ⟨⟨⟨h0, h1⟩, h2⟩, h3⟩ := h
        refine ⟨hx_ite S ((ih _ _ h1).2 h0) (ih _ _ h2).1 (ih _ _ h3).1, fun q => by cases q⟩
      · cases h
    · split at h
      · simp only [Bool.and_eq_true] at h
        obtain ⟨⟨h0, h1⟩, h2⟩ := h
        have := hx_eq S (pos := ‹_›) (ih _ _ h1).1 (ih _ _ h2).1 h0
        exact ⟨this.1, fun _ => this.2⟩
      · cases h
    · split at h
      · simp only [Bool.and_eq_true, decide_eq_true_eq] at h
        obtain ⟨⟨⟨rfl, h1⟩, h2⟩, h3⟩ := h
        exact fin (hx_len S (bl _ h1).1 (bl _ h1).2 (ih _ _ h3).1 h2) rfl
      · cases h
    · cases h

/-! ### the checker -/
def notComp : Expr → Bool
  | .ListComp _ _ _ _ => false
  | .SetComp _ _ _ _ => false
  | .DictComp _ _ _ _ _ => false
  | _ => true
theorem sw_no {v : Expr} {t : Option Expr} {l : Nat} {env : Env} (h : notComp v = true) : swapsWith v t l env = pure false := by
  cases v <;> first | rfl | cases h
def oneC (v : Expr) : Bool := match v with
  | .ListComp _ [⟨_, _, _, 0⟩] _ _ => true
  | _ => false
def isLcSwap (c : Ck) (x : Str) (px : Pos) (scope : Scope) (pv : Pos) : Bool :=
  decide (c.sc.names.lookup x = some .local) && (px.line == pv.line) && !(scope.names.any fun (n, k) => n == x && (k == .local || k == .cell))
def lF : Nat := 40
/-- the one statement of a handler -/
def chkH (c : Ck) (i : Nat) (f : Str) (s : Stmt) (is : S) : Option HSt := match s, is with
  | .Return (some e) _, .ret ie => if chkX lF c i f e ie then some (.ret ie) else none
  | .Assign [.Name y py] v _, .asg (.nm j) ie => if decide (c.N[j]? = some y) && decide (j ≠ i) && decide (c.sc.names.lookup y = some .local) && notComp v && chkX lF c i f v ie then some (.asg j ie) else none
  | _, _ => none
theorem chkH_ss {c : Ck} {i : Nat} {f : Str} {s : Stmt} {is : S} {hs : HSt} (h : chkH c i f s is = some hs) : hs.ss = .cons is .nil ∧ hs.ok i = true := by
  unfold chkH at h
  split at h
  · split at h
    · cases h; exact ⟨rfl, rfl⟩
    · cases h
  · split at h
    · rename_i q
      simp only [Bool.and_eq_true, decide_eq_true_eq] at q
      cases h; exact ⟨rfl, decide_eq_true q.1.1.1.2⟩
    · cases h
  · cases h
def nmV (c : Ck) (x : Str) (px : Pos) (v : Expr) : Bool := match v with
  | .ListComp _ [⟨_, _, _, 0⟩] scope pv => isLcSwap c x px scope pv || !(decide (c.sc.names.lookup x = some .local) && (px.line == pv.line))
  | .DictComp _ _ [⟨_, _, _, 0⟩] scope pv => isLcSwap c x px scope pv || !(decide (c.sc.names.lookup x = some .local) && (px.line == pv.line))
  | v => notComp v
mutual
def chkS (n : Nat) (c : Ck) (s : Stmt) (i : S) : Bool := match n with
  | 0 => false
  | n + 1 => match i with
    | .asg t e => (match s with
      | .Assign [tg] v _ => chkE lF c v e && (match tg with
        | .Name x px => (match t with
          | .nm j => decide (c.N[j]? = some x) && locB c.sc x && c.st.contains x && nmV c x px v
          | _ => false)
        | tg => notComp v && plainG tg && decide (swP c.sc tg v = some none) && chkT c (chkE lF c) 8 tg t)
      | _ => false)
    | .par ns es => (match s with
      | .Assign [.Tuple ts kt pt] (.Tuple vs k2 p2) _ => chkEs (chkE lF c) vs es && (match ts, vs, ns with
        | [.Name x px, .Name y py], [_, _], [i, j] => decide (c.N[i]? = some x) && decide (c.N[j]? = some y) && decide (i ≠ j) && decide (c.sc.names.lookup x = some .local) && decide (c.sc.names.lookup y = some .local)
            && decide (swP c.sc (.Tuple ts kt pt) (.Tuple vs k2 p2) = some (some [x, y]))
        | [.Name x px, .Name y py, .Name z pz], [_, _, _], [i, j, l] => decide (c.N[i]? = some x) && decide (c.N[j]? = some y) && decide (c.N[l]? = some z) && decide (i ≠ j) && decide (i ≠ l) && decide (j ≠ l)
            && decide (c.sc.names.lookup x = some .local) && decide (c.sc.names.lookup y = some .local) && decide (c.sc.names.lookup z = some .local)
            && decide (swP c.sc (.Tuple ts kt pt) (.Tuple vs k2 p2) = some (some [x, y, z]))
        | _, _, _ => false)
      | _ => false)
    | .aug (.nm j) .add e => (match s with
      | .AugAssign (.Name x _) .Add v _ => decide (c.N[j]? = some x) && locB c.sc x && c.st.contains x && chkE lF c v e
      | _ => false)
    | .ex e => (match s with
      | .Expr v _ => notComp v && chkE lF c v e
      | _ => false)
    | .ret e => (match s with
      | .Return (some v) _ => chkE lF c v e
      | .Return none _ => (match e with | .c .non => true | _ => false)
      | _ => false)
    | .ite b p q => (match s with
      | .If t x y _ => notIf t && chkE lF c t b && chkSs n c x p && chkSs n c y q
      | _ => false)
    | .whl b p => (match s with
      | .While t x [] _ => notIf t && chkE lF c t b && chkSs n c x p
      | _ => false)
    | .for_ it t p => (match s with
      | .For tg iter x [] _ => chkIt c (chkE lF c) tg iter it && chkT c (chkE lF c) 8 tg t && chkSs n c x p
      | _ => false)
    | .brk => (match s with | .Break _ => true | _ => false)
    | .cnt => (match s with | .Continue _ => true | _ => false)
    | .pas => (match s with
      | .Pass _ => true
      | .Expr (.Constant (.str _) _ _) _ => true
      | _ => false)
    | .bad => true
    | .rais cn es => (match s with
      | .Raise (some (.Call (.Name x _) [a] [] _)) none _ => decide (x = cn) && glb c cn && (c.fre.xcs.lookup cn).isSome && (match es with
        | .cons i .nil => plainE a && chkE lF c a i
        | _ => false)
      | _ => false)
    | .try_ b cn oth nm hb => (match s with
      | .Try body [.ExceptHandler (some (.Name x _)) y suite _] [] [] _ => decide (x = cn) && glb c cn && oth.all (fun o => (c.fre.xcs.lookup o).isSome) && chkSs n c body b && (match c.fre.xcs.lookup cn with
        | none => false
        | some f => (match nm, y, suite, hb with
          | some i, some y, [st], .cons s1 .nil => decide (c.N[i]? = some y) && decide (c.sc.names.lookup y = some .local) && (chkH c i f st s1).isSome
          | none, none, [.Return (some (.Constant q _ _)) _], .cons (.ret (.c d)) .nil => (match cD q with | some d' => D.same d' d | none => false)
          | _, _, _, _ => false))
      | _ => false)
    | _ => false
termination_by structural n
def chkSs (n : Nat) (c : Ck) (l : List Stmt) (i : Ss) : Bool := match n with
  | 0 => false
  | n + 1 => match l, i with
    | [], .nil => true
    | s :: ss, .cons i is => chkS n c s i && chkSs n c ss is
    | _, _ => false
termination_by structural n
end

variable {c : Ck} {fns : List (Str × Nat)} {fre : Nv}
theorem bk_of {env : Env} (h : env.scope.kind = .function) : env.blockKind = .function := by
  unfold Env.blockKind
  rw [h]; rfl
theorem PS.ak {s : Stmt} {t : TS} (h : X.env.scope.kind = .function → PS X s t) : PS X s t := ⟨fun pins z σ H D I q => (h I.ok.kind).run pins z σ H D I q⟩
theorem swap_false {elt : Expr} {gs : List Comprehension} {scope : Scope} {pv px : Pos} {x : Str} {l : Nat} {env : Env} (hk : env.scope.kind = .function)
    (h : (decide (env.scope.names.lookup x = some .local) && (px.line == pv.line)) = false) : swapsWith (.ListComp elt gs scope pv) (some (.Name x px)) l env = pure false := by
  have hb := bk_of hk
  unfold swapsWith
  dsimp only
  rw [hb]
  have e : (env.kindOf x == some .local) = decide (env.scope.names.lookup x = some .local) := by
    show (env.scope.names.lookup x == some .local) = _
    cases q : env.scope.names.lookup x with
    | none => rfl
    | some z => cases z <;> rfl
  rw [e]
  show (pure (true && decide (env.scope.names.lookup x = some .local) && (px.line == pv.line) && _) : Sem Bool) = _
  rw [Bool.true_and, h]; rfl
theorem swap_falseD {kx vx : Expr} {gs : List Comprehension} {scope : Scope} {pv px : Pos} {x : Str} {l : Nat} {env : Env} (hk : env.scope.kind = .function)
    (h : (decide (env.scope.names.lookup x = some .local) && (px.line == pv.line)) = false) : swapsWith (.DictComp kx vx gs scope pv) (some (.Name x px)) l env = pure false := by
  have hb := bk_of hk
  unfold swapsWith
  dsimp only
  rw [hb]
  have e : (env.kindOf x == some .local) = decide (env.scope.names.lookup x = some .local) := by
    show (env.scope.names.lookup x == some .local) = _
    cases q : env.scope.names.lookup x with
    | none => rfl
    | some z => cases z <;> rfl
  rw [e]
  show (pure (true && decide (env.scope.names.lookup x = some .local) && (px.line == pv.line) && _) : Sem Bool) = _
  rw [Bool.true_and, h]; rfl
theorem swap_trueD {kx vx : Expr} {gs : List Comprehension} {scope : Scope} {pv px : Pos} {x : Str} {l : Nat} {env : Env} (hk : env.scope.kind = .function) (hx : env.scope.names.lookup x = some .local) (hl : (px.line == pv.line) = true)
    (ha : (scope.names.any fun (n, k) => n == x && (k == .local || k == .cell)) = false) : swapsWith (.DictComp kx vx gs scope pv) (some (.Name x px)) l env = pure true := by
  have hb := bk_of hk
  have ky : env.kindOf x = some .local := hx
  unfold swapsWith
  simp only [hb, ky, ha, Expr.pos, hl]
  rfl
theorem asgName_ok (hy : Hy G cl k fns fre) (hf : c.fns = fns) (hr : c.fre = fre) {rs : List Addr} (g : Gd { G with rs := rs } W k c.N c.sc c.st X) {x : Str} {px pos : Pos} {v : Expr} {e : E} {j w : Nat} (h : chkE lF c v e = true) (h1 : c.N[j]? = some x) (h2 : locB c.sc x = true) (h3 : c.st.contains x = true)
    (h4 : nmV c x px v = true) : PS X (.Assign [.Name x px] v pos) (tS { G with rs := rs } W cl w (.asg (.nm j) e)) := by
  have gf : Good G cl k c (chkE lF c) := chk_ok hy lF c hf hr
  refine PS.ak fun hk => ?_
  unfold nmV at h4
  split at h4
  · rename_i elt tg iter ifs scope pv
    rw [Bool.or_eq_true] at h4
    rcases h4 with h4 | h4
    · unfold isLcSwap at h4
      simp only [Bool.and_eq_true, decide_eq_true_eq, Bool.not_eq_true'] at h4
      obtain ⟨⟨l1, l2⟩, l3⟩ := h4
      have h' := h
      unfold lF chkE at h
      cases e with
      | lc it t cond x' =>
        dsimp only at h
        simp only [Bool.and_eq_true] at h
        obtain ⟨⟨⟨⟨q1, q2⟩, q3⟩, q4⟩, q5⟩ := h
        obtain ⟨own, b1, b2⟩ := blk_ok q2
        have hy' : Hy G cl k c.fns c.fre := by rw [hf, hr]; exact hy
        have ge : Good G cl k c (chkE 39 c) := chk_ok hy 39 c hf hr
        have gb : Good G cl k (blkC c scope) (chkE 39 (blkC c scope)) := chk_ok hy 39 (blkC c scope) hf hr
        obtain ⟨i1, i2⟩ := it_ok (tg := tg) hy' ge g q1
        refine y_setLc (st' := (blkC c scope).st) g h1 l1 (sw_true hk (by rw [g.hsc]; exact l1) l2 l3) i1 b1 b2 (blk_st b1.uniq) ⟨?_, ?_, ?_⟩ (foldNo i2)
        · exact fun rs' X' g' => (t_ok gb g' 8).1 _ _ q3
        · exact fun rs' X' g' => if_ok gb g' q4
        · exact fun rs' X' g' => (gb _ _ q5 _ _ X' g').pe
      | b1 o a =>
        have h6 : chkOwn c (chkE 39 c) (chkE 39 (blkC c scope)) elt tg iter ifs scope o a = true := h
        unfold chkOwn at h6
        clear h
        split at h6
        · simp only [Bool.and_eq_true] at h6
          obtain ⟨⟨⟨⟨q1, q2⟩, q3⟩, q4⟩, q5⟩ := h6
          obtain ⟨own, b1, b2⟩ := blk_ok q2
          have hy' : Hy G cl k c.fns c.fre := by rw [hf, hr]; exact hy
          have ge : Good G cl k c (chkE 39 c) := chk_ok hy 39 c hf hr
          have gb : Good G cl k (blkC c scope) (chkE 39 (blkC c scope)) := chk_ok hy 39 (blkC c scope) hf hr
          obtain ⟨i1, i2⟩ := it_ok (tg := tg) hy' ge g q1
          refine y_setLcM (st' := (blkC c scope).st) g h1 l1 (sw_true hk (by rw [g.hsc]; exact l1) l2 l3) i1 b1 b2 (blk_st b1.uniq) ⟨?_, ?_, ?_⟩ (foldNo i2)
          · exact fun rs' X' g' => (t_ok gb g' 8).1 _ _ q3
          · exact fun rs' X' g' => if_ok gb g' q4
          · exact fun rs' X' g' => (gb _ _ q5 _ _ X' g').pe
        · cases h6
      | bad => exact ⟨fun _ _ _ _ _ _ ⟨_, _, _, _, _, f⟩ => f.elim⟩
      | _ => cases h
    · rw [Bool.not_eq_true'] at h4
      exact y_set g h1 (loc_of h2) (by simpa using h3) (gf _ _ h rs W X g).pe (swap_false hk (by rw [g.hsc]; exact h4))
  · rename_i kx vx tg iter ifs scope pv
    rw [Bool.or_eq_true] at h4
    rcases h4 with h4 | h4
    · unfold isLcSwap at h4
      simp only [Bool.and_eq_true, decide_eq_true_eq, Bool.not_eq_true'] at h4
      obtain ⟨⟨l1, l2⟩, l3⟩ := h4
      unfold lF chkE at h
      cases e with
      | dc it t cond ky x' =>
        dsimp only at h
        simp only [Bool.and_eq_true] at h
        obtain ⟨⟨⟨⟨⟨q1, q2⟩, q3⟩, q4⟩, q5⟩, q6⟩ := h
        obtain ⟨own, b1, b2⟩ := blk_ok q2
        have hy' : Hy G cl k c.fns c.fre := by rw [hf, hr]; exact hy
        have ge : Good G cl k c (chkE 39 c) := chk_ok hy 39 c hf hr
        have gb : Good G cl k (blkC c scope) (chkE 39 (blkC c scope)) := chk_ok hy 39 (blkC c scope) hf hr
        obtain ⟨i1, i2⟩ := it_ok (tg := tg) hy' ge g q1
        refine y_setDc (st' := (blkC c scope).st) g h1 l1 (swap_trueD hk (by rw [g.hsc]; exact l1) l2 l3) i1 b1 b2 (blk_st b1.uniq) ⟨?_, ?_, ?_, ?_⟩ (foldNo i2)
        · exact fun rs' X' g' => (t_ok gb g' 8).1 _ _ q3
        · exact fun rs' X' g' => if_ok gb g' q4
        · exact fun rs' X' g' => (gb _ _ q5 _ _ X' g').pe
        · exact fun rs' X' g' => (gb _ _ q6 _ _ X' g').pe
      | bad => exact ⟨fun _ _ _ _ _ _ ⟨_, _, _, _, _, f⟩ => f.elim⟩
      | _ => cases h
    · rw [Bool.not_eq_true'] at h4
      exact y_set g h1 (loc_of h2) (by simpa using h3) (gf _ _ h rs W X g).pe (swap_falseD hk (by rw [g.hsc]; exact h4))
  · exact y_set g h1 (loc_of h2) (by simpa using h3) (gf _ _ h rs W X g).pe (sw_no h4)
theorem lookup_mem_ : ∀ {l : List (Str × Str)} {x y : Str}, l.lookup x = some y → (x, y) ∈ l
  | [], _, _, h => by cases h
  | (a, b) :: l, x, y, h => by
    rw [List.lookup_cons] at h
    split at h
    · rename_i e
      have e := beq_iff_eq.mp e
      cases h; subst e
      exact List.mem_cons_self ..
    · exact List.mem_cons_of_mem _ (lookup_mem_ h)
theorem XcAt.rs {cn f : Str} {rs : List Addr} (x : XcAt G cn f) : XcAt { G with rs := rs } cn f := ⟨x.ex, x.xf, x.nd, x.isV⟩
theorem chkS_ok (hy : Hy G cl k fns fre) (w : Nat) : ∀ n, (∀ c s i, c.fns = fns → c.fre = fre → chkS n c s i = true → ∀ rs W X, Gd { G with rs := rs } W k c.N c.sc c.st X → Fr X → PS X s (tS { G with rs := rs } W cl w i)) ∧
    (∀ c s i, c.fns = fns → c.fre = fre → chkSs n c s i = true → ∀ rs W X, Gd { G with rs := rs } W k c.N c.sc c.st X → Fr X → PSs X s (tSs { G with rs := rs } W cl w i)) := by
  intro n
  induction n with
  | zero => exact ⟨fun c s i _ _ h => by simp [chkS] at h, fun c s i _ _ h => by simp [chkSs] at h⟩
  | succ n ih =>
    refine ⟨fun c s i hf hr h rs W X g fr => ?_, fun c s i hf hr h rs W X g fr => ?_⟩
    · have gf : Good G cl k c (chkE lF c) := chk_ok hy lF c hf hr
      have hy' : Hy G cl k c.fns c.fre := by rw [hf, hr]; exact hy
      unfold chkS at h
      cases i with
      | asg t e =>
        dsimp only at h
        split at h
        · rw [Bool.and_eq_true] at h
          obtain ⟨h0, h⟩ := h
          split at h
          · split at h
            · simp only [Bool.and_eq_true, decide_eq_true_eq] at h
              obtain ⟨⟨⟨h1, h2⟩, h3⟩, h4⟩ := h
              exact asgName_ok hy hf hr g h0 h1 h2 h3 h4
            · cases h
          · simp only [Bool.and_eq_true, decide_eq_true_eq] at h
            obtain ⟨⟨⟨h1, h2⟩, h3⟩, h4⟩ := h
            refine PS.ak fun hk => ?_
            exact y_asg (gf _ _ h0 rs W X g).pe ((t_ok gf g 8).1 _ _ h4) (sw_no h1) (swP_ok (bk_of hk) g.hsc h3) h2
        · cases h
      | par ns es =>
        dsimp only at h
        split at h
        · rw [Bool.and_eq_true] at h
          obtain ⟨h0, h⟩ := h
          split at h
          · simp only [Bool.and_eq_true, decide_eq_true_eq] at h
            obtain ⟨⟨⟨⟨⟨h1, h2⟩, h3⟩, h4⟩, h5⟩, h6⟩ := h
            · refine PS.ak fun hk => ?_
              exact y_par2 g h1 h2 h3 h4 h5 (es_ok gf g h0).1 (swP_ok (bk_of hk) g.hsc h6)
          · simp only [Bool.and_eq_true, decide_eq_true_eq] at h
            obtain ⟨⟨⟨⟨⟨⟨⟨⟨⟨h1, h2⟩, h3⟩, h4⟩, h5⟩, h6⟩, h7⟩, h8⟩, h9⟩, h10⟩ := h
            · refine PS.ak fun hk => ?_
              exact y_par3 g h1 h2 h3 h4 h5 h6 h7 h8 h9 (es_ok gf g h0).1 (swP_ok (bk_of hk) g.hsc h10)
          · cases h
        · cases h
      | aug t o e =>
        cases t <;> try (cases h; done)
        cases o <;> try (cases h; done)
        dsimp only at h
        split at h
        · simp only [Bool.and_eq_true, decide_eq_true_eq] at h
          obtain ⟨⟨⟨h1, h2⟩, h3⟩, h4⟩ := h
          exact y_aug g h1 (loc_of h2) (by simpa using h3) (gf _ _ h4 rs W X g).pe
        · cases h
      | ex e =>
        dsimp only at h
        split at h
        · rw [Bool.and_eq_true] at h
          exact y_ex (gf _ _ h.2 rs W X g).pe (sw_no h.1)
        · cases h
      | ret e =>
        dsimp only at h
        split at h
        · exact y_ret (gf _ _ h rs W X g).pe
        · split at h
          · exact y_retN
          · cases h
        · cases h
      | ite b p q =>
        dsimp only at h
        split at h
        · simp only [Bool.and_eq_true] at h
          obtain ⟨⟨⟨h1, h2⟩, h3⟩, h4⟩ := h
          exact y_if ((gf _ _ h2 rs W X g).pt h1) (ih.2 c _ _ hf hr h3 rs W X g fr) (ih.2 c _ _ hf hr h4 rs W X g fr)
        · cases h
      | whl b p =>
        dsimp only at h
        split at h
        · simp only [Bool.and_eq_true] at h
          obtain ⟨⟨h1, h2⟩, h3⟩ := h
          exact y_whl g ((gf _ _ h2 rs W X g).pt h1) (ih.2 c _ _ hf hr h3 rs W X g fr)
        · cases h
      | for_ it t p =>
        dsimp only at h
        split at h
        · simp only [Bool.and_eq_true] at h
          obtain ⟨⟨h1, h2⟩, h3⟩ := h
          rename_i tg _ _ _
          obtain ⟨i1, i2⟩ := it_ok (tg := tg) hy' gf g h1
          exact y_for g i1 ((t_ok gf g 8).1 _ _ h2) (ih.2 c _ _ hf hr h3 rs W X g fr) (foldNo i2)
        · cases h
      | brk =>
        dsimp only at h
        split at h
        · exact y_brk
        · cases h
      | cnt =>
        dsimp only at h
        split at h
        · exact y_cnt
        · cases h
      | pas =>
        dsimp only at h
        split at h
        · exact y_pas
        · exact y_doc
        · cases h
      | bad => exact ⟨fun _ _ _ _ _ _ ⟨_, _, _, _, _, f⟩ => f.elim⟩
      | rais cn es =>
        dsimp only at h
        split at h
        · simp only [Bool.and_eq_true, decide_eq_true_eq] at h
          obtain ⟨⟨⟨rfl, h1⟩, h2⟩, h3⟩ := h
          split at h3
          · rw [Bool.and_eq_true] at h3
            obtain ⟨f, ef⟩ := Option.isSome_iff_exists.mp h2
            exact y_raise g (hy'.xc _ (lookup_mem_ ef)).rs (gl_of g h1) (gf _ _ h3.2 rs W X g).pe h3.1
          · cases h3
        · cases h
      | try_ b cn oth nm hb =>
        dsimp only at h
        split at h
        · rename_i body x np y suite pos' pos
          simp only [Bool.and_eq_true, decide_eq_true_eq, List.all_eq_true] at h
          obtain ⟨⟨⟨⟨rfl, h1⟩, h2⟩, h3⟩, h4⟩ := h
          split at h4
          · cases h4
          · rename_i f ef
            have xc := (hy'.xc _ (lookup_mem_ ef)).rs (rs := rs)
            have xm : ∀ c', c' = x ∨ c' ∈ oth → ∀ C D, ({ G with rs := rs } : Gx).mg c' = some (.ref C) → ({ G with rs := rs } : Gx).mg x = some (.ref D) → PySem.W.exmOne ({ G with rs := rs } : Gx).K (.ref C) (.ref D) = some (decide (c' = x)) := by
              rintro c' hc C D m1 m2
              have : ∃ f', (c', f') ∈ c.fre.xcs := by
                rcases hc with rfl | hc
                · exact ⟨f, lookup_mem_ ef⟩
                · obtain ⟨f', e'⟩ := Option.isSome_iff_exists.mp (h2 _ hc)
                  exact ⟨f', lookup_mem_ e'⟩
              obtain ⟨f', m'⟩ := this
              exact hy'.xm _ m' _ (lookup_mem_ ef) C D m1 m2
            have hb' : ∀ W' X', Gd { G with rs := rs } W' k c.N c.sc c.st X' → Fr X' → PSs X' body (tSs { G with rs := rs } W' cl w b) := fun W' X' g' fr' => ih.2 c _ _ hf hr h3 rs W' X' g' fr'
            split at h4
            · rename_i i y st s1
              simp only [Bool.and_eq_true, decide_eq_true_eq] at h4
              obtain ⟨⟨h5, h6⟩, h7⟩ := h4
              obtain ⟨hs, eh⟩ := Option.isSome_iff_exists.mp h7
              obtain ⟨ess, ok⟩ := chkH_ss eh
              rw [← ess]
              refine y_try g fr xc xm (gl_of g h1) h5 h6 ok hb' fun a C oe cls d pn S => ?_
              unfold chkH at eh
              split at eh
              · split at eh
                · rename_i q
                  cases eh
                  refine pss_one (PS.of (ps_ret (chkX_ok (cl := cl) hy'.no S lF _ _ q).1) ?_)
                  rintro D σ H ⟨ι, ρ, h, xh, fi⟩
                  exact ⟨ι, ρ, h, xh, fi⟩
                · cases eh
              · split at eh
                · rename_i q
                  simp only [Bool.and_eq_true, decide_eq_true_eq] at q
                  obtain ⟨⟨⟨⟨q1, q2⟩, q3⟩, q4⟩, q5⟩ := q
                  cases eh
                  refine pss_one (PS.of (ps_set (by rw [S.hN]; rw [← g.hN]; exact (by rw [g.hN]; exact g.nd)) (by rw [S.hN]; exact q1) (.inl (by rw [S.hsc]; exact q3)) (chkX_ok (cl := cl) hy'.no S lF _ _ q5).1 (sw_no q4) (.inr (by rw [S.hsc]; exact q3))) ?_)
                  rintro D σ H ⟨ι, ρ, h, xh, fi⟩
                  exact ⟨ι, ρ, h, xh, fi⟩
                · cases eh
              · cases eh
            · rename_i q _ _ _ d
              split at h4
              · rename_i d' ed
                have := D.same_eq _ _ h4
                subst this
                cases q <;> cases ed
                · exact y_try0 g fr xc xm (gl_of g h1) (fun _ => pe_non) (fun _ _ => .non) hb'
                · exact y_try0 g fr xc xm (gl_of g h1) (fun _ => pe_bl) (fun _ _ => .bl _) hb'
                · exact y_try0 g fr xc xm (gl_of g h1) (fun _ => pe_int) (fun _ _ => .int _) hb'
                · exact y_try0 g fr xc xm (gl_of g h1) (fun _ => pe_str) (fun _ _ => .str _) hb'
              · cases h4
            · cases h4
        · cases h
    · unfold chkSs at h
      split at h
      · exact y_nil
      · rw [Bool.and_eq_true] at h
        exact y_cons (ih.1 c _ _ hf hr h.1 rs W X g fr) (ih.2 c _ _ hf hr h.2 rs W X g fr)
      · cases h
end Rx

/-! RxM: the table of defs, the law's end. -/
namespace Rx
open PySem L2
open PyProof.Rows (envOfC)
variable {G : Gx} {W : WX} {cl : Cl} {k : Nat} {N : List Str} {sc : Scope} {st st' : List Str} {X : Cx}
variable {ι ι' : List Addr} {H H' : Hp} {h h' : Hq} {ρ : Ev} {σ σ' : MSt} {v : V} {d : D} {a : Addr} {n : Nat}

/-- a def of the module, as it is written and as the evaluator has it -/
structure Row where
  fn : Fn
  N : List Str
  ps : List Str
  qual : Str
  params : Arguments
  body : List Stmt
  scope : Scope
/-- the module has it -/
structure HasFn (G : Gx) (r : Row) (f : Addr) (fd : FuncData) : Prop where
  ex : ∃ (name : Str) (oc : Value) (od : Option Addr) (dV kV doc pm : Value) (an : Option Addr) (cdv ct : Value) (osl : Array (Option Value)),
    fd = PySem.W.fnOf name r.qual r.params r.body r.scope dV kV doc pm an cdv ct ∧ G.K.lookup f = some ⟨oc, od, .func fd, osl⟩ ∧ PySem.W.codeIn G.K cdv r.qual = true
  mg : G.mg r.fn.name = some (.ref f)
  kp : PySem.W.keepIn G.K (.ref f) = true
  bd : Binds G.K fd r.ps []
/-- what is checked of it -/
def chkRow (fns : List (Str × Nat)) (fre : Nv) (r : Row) : Bool :=
  chkSs 60 ⟨r.N, r.scope, r.N, fns, fre⟩ r.body r.fn.body && decide (r.N.length = r.fn.ns) && decide (r.ps.length = r.fn.np)
    && decide (r.scope.kind = .function) && decide (r.scope.isCoroutine = false) && decide (r.scope.isGenerator = false) && decide (r.N.Nodup) && decide (r.N.take r.ps.length = r.ps)
    && r.ps.all (locB r.scope) && r.scope.names.all (fun y => decide (y.2 ≠ .free)) && !(r.fn.name == ("__debug__" : Str))

theorem FinV.body {o : Out} {Q : VK} (f : FinV G W ι H σ (endOf o) Q) : FinO G W ι H o { nx := fun _ H' => Q .non H', rt := Q } ∨ ∃ x ρ' h', o = .xc x ρ' h' := by
  cases o with
  | nx ρ1 h1 => exact .inl fun ι2 H2 σ2 x r _ => f ι2 H2 .non x r .non
  | rt d ρ1 h1 => exact .inl f
  | xc x ρ1 h1 => exact .inr ⟨x, ρ1, h1, rfl⟩
  | bk => exact f.elim
  | ct => exact f.elim
  | er => exact f.elim
theorem ER.start {ds : List D} {vs : List V} {m : Nat} (w : VRs G ι H vs ds) (hN : N.length = ds.length + m) : ER G ι H (ds.map some ++ List.replicate m none) (start N vs) := by
  unfold L2.start
  refine ⟨by simp [w.length, hN], fun i d e => ?_⟩
  by_cases hi : i < ds.length
  · rw [List.getElem?_append_left (by simpa using hi), List.getElem?_map] at e
    cases q : ds[i]? with
    | none => rw [q] at e; cases e
    | some d' =>
      rw [q] at e; cases e
      obtain ⟨v, h1, h2⟩ := w.get q
      refine ⟨v, ?_, h2⟩
      rw [List.getElem?_append_left (by rw [List.length_map, w.length]; exact hi), List.getElem?_map, h1]; rfl
  · rw [List.getElem?_append_right (by simpa using hi), List.getElem?_replicate] at e
    split at e <;> cases e
variable {T : List Fn} {w : Nat} {fns : List (Str × Nat)} {fre : Nv}
theorem row_ok {r : Row} {f : Addr} {fd : FuncData} (hy : Hy G (callN T w k) k fns fre) (hf : HasFn G r f fd) (hc : chkRow fns fre r = true) (ht : (T.find? fun g => decide (g.name = r.fn.name)) = some r.fn) :
    FnAt G (callN T w (k + 1)) (k + 1) r.fn.name r.fn.np f fd r.ps := by
  unfold chkRow at hc
  simp only [Bool.and_eq_true, decide_eq_true_eq, List.all_eq_true, Bool.not_eq_true'] at hc
  obtain ⟨⟨⟨⟨⟨⟨⟨⟨⟨⟨c1, c2⟩, c3⟩, c4⟩, c5⟩, c6⟩, c7⟩, c8⟩, c9⟩, c10⟩, c11⟩ := hc
  obtain ⟨name, oc, od, dV, kV, doc, pm, an, cdv, ct, osl, rfl, lk, cd⟩ := hf.ex
  have S : FnScope r.N r.ps r.scope := ⟨c4, c5, c6, c7, c8, fun x hx => loc_of (c9 x hx), c10⟩
  refine ⟨hf.mg, hf.kp, hf.bd, FnG.by_body lk cd S (fun vs H Q E h => by rw [c3]; exact h.1) ?_, c11⟩
  rintro A outer s H vs Q E room gs ⟨hn, rs, ι, ds, h, hr, vr, f⟩
  refine ⟨tSs { G with rs := rs } (fun cls dd _ H => E cls dd H) (callN T w k) w r.fn.body, ?_, ?_⟩
  · refine (chkS_ok hy w 60).2 ⟨r.N, r.scope, r.N, fns, fre⟩ _ _ rfl rfl c1 rs _ _ ?_ ?_
    · exact ⟨rfl, rfl, S.nd, rfl, rfl, rfl, rfl, rfl, rfl, ⟨room, gs⟩, takes_of rfl rfl rfl rfl, passes_of rfl, fun _ _ => .inl rfl⟩
    · exact ⟨rfl, rfl⟩
  · have e : callN T w (k + 1) r.fn.name ds h = runFn (callN T w k) w r.fn ds h := by
      show (match T.find? fun g => decide (g.name = r.fn.name) with
        | some g => runFn (callN T w k) w g ds h
        | none => .er) = _
      rw [ht]
    rw [e] at f
    unfold runFn at f
    have hl : ds.length = r.fn.np := by rw [← vr.length]; exact hn
    rw [if_pos hl] at f
    have hp : r.ps.length ≤ r.N.length := by
      have := congrArg List.length c8
      rw [List.length_take] at this
      omega
    refine ⟨ι, _, h, ER.start (m := r.fn.ns - r.fn.np) vr (by omega), hr, ?_⟩
    rcases FinV.body f with q | ⟨x, ρ1, h1, q⟩
    · exact q
    · rw [q] at f ⊢
      exact fun ι2 H2 σ2 cls dd x2 r2 _ q2 => f ι2 H2 cls dd x2 r2 q2
theorem fns_find {name : Str} {n : Nat} : ∀ {rows : List Row}, (rows.map fun r => (r.fn.name, r.fn.np)).lookup name = some n →
    ∃ r ∈ rows, r.fn.name = name ∧ r.fn.np = n ∧ ((rows.map (·.fn)).find? fun g => decide (g.name = name)) = some r.fn
  | [], h => by cases h
  | r :: rows, h => by
    rw [List.map_cons, List.lookup_cons] at h
    by_cases e : r.fn.name = name
    · have e2 : (name == r.fn.name) = true := by rw [e]; simp
      rw [e2] at h
      cases h
      exact ⟨r, by simp, e, rfl, by rw [List.map_cons, List.find?_cons, decide_eq_true e]⟩
    · have e2 : (name == r.fn.name) = false := by simp; exact fun z => e z.symm
      rw [e2] at h
      obtain ⟨r', m, h1, h2, h3⟩ := fns_find h
      exact ⟨r', by simp [m], h1, h2, by rw [List.map_cons, List.find?_cons, decide_eq_false e]; exact h3⟩
/-- the table of a module -/
structure Tab (G : Gx) (rows : List Row) (fre : Nv) : Prop where
  has : ∀ r ∈ rows, ∃ f fd, HasFn G r f fd
  chk : rows.all (chkRow (rows.map fun r => (r.fn.name, r.fn.np)) fre) = true
  no : ∀ x ∈ fre.blt, G.mg x = none
  xc : ∀ p ∈ fre.xcs, XcAt G p.1 p.2
  xm : ∀ p ∈ fre.xcs, ∀ q ∈ fre.xcs, ∀ C D, G.mg p.1 = some (.ref C) → G.mg q.1 = some (.ref D) → PySem.W.exmOne G.K (.ref C) (.ref D) = some (decide (p.1 = q.1))
theorem Tab.hy {rows : List Row} (t : Tab G rows fre) (w : Nat) : ∀ k, Hy G (callN (rows.map (·.fn)) w k) k (rows.map fun r => (r.fn.name, r.fn.np)) fre := by
  have chk := t.chk
  rw [List.all_eq_true] at chk
  intro k
  induction k with
  | zero =>
    refine ⟨fun name n hl => ?_, t.no, t.xc, t.xm⟩
    obtain ⟨r, m, h1, h2, h3⟩ := fns_find hl
    obtain ⟨f, fd, hf⟩ := t.has r m
    have bad : ∀ vs H Q E, ¬ spF G (callN (rows.map (·.fn)) w 0) name n vs H Q E := fun vs H Q E ⟨_, _, _, _, _, _, _, z⟩ => z
    have nd := chk r m
    unfold chkRow at nd
    simp only [Bool.and_eq_true, Bool.not_eq_true'] at nd
    subst h1
    exact ⟨f, fd, r.ps, hf.mg, hf.kp, hf.bd, ⟨fun vs H Q E h => (bad _ _ _ _ h).elim, fun _ _ _ _ _ _ _ _ _ _ _ _ _ _ h => (bad _ _ _ _ h).elim⟩, nd.2⟩
  | succ k ih =>
    refine ⟨fun name n hl => ?_, t.no, t.xc, t.xm⟩
    obtain ⟨r, m, h1, h2, h3⟩ := fns_find hl
    obtain ⟨f, fd, hf⟩ := t.has r m
    subst h1 h2
    exact ⟨f, fd, r.ps, row_ok ih hf (chk r m) h3⟩
end Rx

/-! RxN: a law's end. -/
namespace Rx
open PySem L2
open PyProof.Rows (AllBare IntsAre)
/-- what the law asks of the evaluator -/
structure LawR (G : Gx) (T : List Fn) (w k : Nat) (most : Nat) : Prop where
  ok : ∀ ns : List Int, ns.length ≤ most → ∃ h, callN T w k "law" [.slst (ns.map D.int)] [] = .ok (.bl true) h
theorem ints_VRs {G : Gx} {ι : List Addr} {H : Hp} : ∀ ns : List Int, VRs G ι H (ns.map V.int) (ns.map D.int)
  | [] => .nil
  | n :: ns => .cons (.int n) (ints_VRs ns)
theorem law_sp {G : Gx} {cl : Cl} {H : Hp} {a : Addr} {ns : List Int} (h : ∃ q, cl "law" [.slst (ns.map D.int)] [] = .ok (.bl true) q) (only : Only H) (S : SqL G.K H a (ns.map V.int)) :
    spF G cl "law" 1 [.ref a] H (fun v _ => v = .bl true) fun _ _ _ => False := by
  obtain ⟨q, e⟩ := h
  refine ⟨rfl, [], [], [.slst (ns.map D.int)], [], HR.nil (fun _ m => nomatch m), .cons (.slst ?_ (ints_VRs ns)) .nil, ?_⟩
  · rcases S with (S | ⟨o, S⟩) | S
    · rcases only a with z | ⟨o, xs, z⟩
      · rw [z] at S; cases S
      · rw [z] at S; cases S
    · exact .inl ⟨List.not_mem_nil, o, S⟩
    · exact .inr S
  · rw [e]
    intro ι' H' v x r q
    exact q.blD

section
variable {P : Program} {w : World} {K : PySem.W.Frag} {mg mb : Str → Option Value} {xf : Str → List Str} {k : Nat} {fa a : Addr} {fd : FuncData} {x : Str} {s₁ : Shared} {vs : List Value} {ns : List Int}
/-- the law's call, from an abstract heap of the script alone -/
theorem law_from {H : Hp} {sp : Heap → Sp} (inK : K.In s₁.heap) (nsG : s₁.heap.Ns mainGlobals mg) (nsB : s₁.heap.Ns builtinsNs mb) (blt : ∀ x : Str, x ≠ "__name__" → mb x = bootBuiltins x) (lim : s₁.heap.NoLimit) (gens : s₁.gens = #[])
    (ha : s₁.heap.get? a = some { cls := .type "list", data := .seq vs.toArray }) (room : Room (k + 2) callerA) (F : ∀ base : Heap, K.In base → base.Ns mainGlobals mg → FnG ⟨P, w, K, mg, base, xf, []⟩ k fa fd [x] (sp base) ∧ sp base [.ref a] H (fun v _ => v = .bl true) fun _ _ _ => False)
    (bind : ∀ (s : Shared) (u : Value), BindsTo s fd ⟨[u], []⟩ [(x, u)]) (only : Only H) (hok : HOk P w H s₁.heap) (just : ∀ b, H b ≠ none → b = a) (outK : H a ≠ none → K.lookup a = none) :
    codeAny (model P w) callerA (.call (.ref fa) ⟨[.ref a], []⟩) (fun r s' => r = .ok (.ret (.bool true)) ∧ OldK s₁.heap s'.heap ∧ s'.os = s₁.os ∧ AllBare s'.gens) s₁ := by
  have dictFree : ∀ {b : Addr} {o : Obj} {es : Array DictEntry} {ep : Nat}, s₁.heap.get? b = some o → o.data = .dict es ep → H b = none := by
    intro b o es ep e d
    by_cases q : H b = none
    · exact q
    · have := just b q
      subst this
      rw [ha] at e; cases e; cases d
  have nsK : ∀ {b : Addr} {m : Str → Option Value}, s₁.heap.Ns b m → (hidT s₁.heap H).Ns b m := by
    rintro b m ⟨o, es, ep, e, d, r⟩
    exact ⟨o, es, ep, hidT_get e (dictFree e d), d, r⟩
  have kin : K.In (hidT s₁.heap H) := by
    intro b o e
    refine hidT_get (inK b o e) ?_
    by_cases q : H b = none
    · exact q
    · have := just b q
      subst this
      rw [outK q] at e; cases e
  obtain ⟨mc, l1, l2⟩ := lim
  have md : Mod K mg (hidT s₁.heap H) := ⟨kin, nsK nsG, ⟨mb, nsK nsB, blt⟩, mc, nsK l1, l2⟩
  have env : Env0 P w K mg (hidT s₁.heap H) callerA [] s₁ H := ⟨rfl, md, fun _ _ e => of_hidT e, Nat.le_of_eq (hidT_size _ _), trivial, fun b m => (nomatch m), hok, .of_eq gens⟩
  obtain ⟨fn, hsp⟩ := F _ kin (nsK nsG)
  refine codeAny_mono (fn.run callerA [] s₁ H ⟨[.ref a], []⟩ [.ref a] [.ref a] _ _ room rfl env (bind s₁ (.ref a)) (.cons rfl .nil) hsp) ?_
  intro r s' out
  cases r with
  | error e =>
    obtain ⟨_, _, _, _, _, _, _, _, _, _, _, _, z⟩ := out
    exact z.elim
  | ok fl =>
    cases fl with
    | ret u =>
      obtain ⟨v, H', os, bare, un, hok', rv, ev⟩ := out
      have ev : v = .bl true := ev
      subst ev
      have rv : u = Value.bool true := rv
      subst rv
      refine ⟨rfl, .of_keep fun b o e => ?_, os, bare⟩
      rcases only b with z | ⟨ob, xs, z⟩
      · exact un.keep b o e z (fun m => (nomatch m)) (fun m => (nomatch m))
      · obtain ⟨e1, -⟩ := hok b _ z
        obtain ⟨e2, -⟩ := hok' b _ (un.frzs b ob _ z)
        rw [e] at e1; cases e1
        exact e2
    | next => exact out.elim
    | brk => exact out.elim
    | cont => exact out.elim
theorem law_run (inK : K.In s₁.heap) (nsG : s₁.heap.Ns mainGlobals mg) (nsB : s₁.heap.Ns builtinsNs mb) (blt : ∀ x : Str, x ≠ "__name__" → mb x = bootBuiltins x) (lim : s₁.heap.NoLimit) (gens : s₁.gens = #[])
    (ha : s₁.heap.get? a = some { cls := .type "list", data := .seq vs.toArray }) (hi : IntsAre vs ns) (hl : ns.length ≤ sizeLine) (room : Room (k + 2) callerA) {sp : Heap → Sp}
    (F : ∀ base : Heap, K.In base → base.Ns mainGlobals mg → FnG ⟨P, w, K, mg, base, xf, []⟩ k fa fd [x] (sp base) ∧ ∀ H, Only H → SqL K H a (ns.map V.int) → sp base [.ref a] H (fun v _ => v = .bl true) fun _ _ _ => False)
    (bind : ∀ (s : Shared) (u : Value), BindsTo s fd ⟨[u], []⟩ [(x, u)]) :
    codeAny (model P w) callerA (.call (.ref fa) ⟨[.ref a], []⟩) (fun r s' => r = .ok (.ret (.bool true)) ∧ OldK s₁.heap s'.heap ∧ s'.os = s₁.os ∧ AllBare s'.gens) s₁ := by
  have rv := vals_ints hi
  have lenV := hi.length
  cases own : K.lookup a with
  | some o =>
    have e := inK a o own
    rw [ha] at e
    cases e
    have only : Only fun _ => none := fun _ => .inl rfl
    refine law_from (H := fun _ => none) (xf := xf) (sp := sp) inK nsG nsB blt lim gens ha room (fun base k1 k2 => ?_) bind only (fun b u z => nomatch z) (fun b z => (z rfl).elim) (fun z => (z rfl).elim)
    obtain ⟨f1, f2⟩ := F base k1 k2
    refine ⟨f1, f2 _ only (.inr ⟨_, vs.toArray, _, own, rfl, rfl, rfl, ?_, by simpa using rv⟩)⟩
    rw [List.size_toArray, lenV]; exact hl
  | none =>
    have at_ : ∀ b, b = a → (fun b => if b = a then some (HO.frz { cls := .type "list", data := .seq vs.toArray } (.lst (ns.map V.int))) else none) b = some (.frz { cls := .type "list", data := .seq vs.toArray } (.lst (ns.map V.int))) := fun b e => if_pos e
    have off : ∀ b, b ≠ a → (fun b => if b = a then some (HO.frz { cls := .type "list", data := .seq vs.toArray } (.lst (ns.map V.int))) else none) b = none := fun b e => if_neg e
    generalize (fun b => if b = a then some (HO.frz { cls := .type "list", data := .seq vs.toArray } (.lst (ns.map V.int))) else none) = H at at_ off
    have only : Only H := fun b => by
      by_cases e : b = a
      · exact .inr ⟨_, _, at_ b e⟩
      · exact .inl (off b e)
    have hok : HOk P w H s₁.heap := fun b u z => by
      by_cases e : b = a
      · have z' := (at_ b e).symm.trans z
        cases z'
        subst e
        exact ⟨ha, by rw [List.length_map]; exact hl, vs, _, rv, ha⟩
      · have z' := (off b e).symm.trans z
        cases z'
    refine law_from (H := H) (xf := xf) (sp := sp) inK nsG nsB blt lim gens ha room (fun base k1 k2 => ?_) bind only hok (fun b z => ?_) (fun _ => own)
    · obtain ⟨f1, f2⟩ := F base k1 k2
      exact ⟨f1, f2 _ only (.inl (.inr ⟨_, at_ a rfl⟩))⟩
    · by_cases e : b = a
      · exact e
      · exact (z (off b e)).elim
end
/-- THE END: the head's facts give the table; the evaluator's law is True -/
theorem walk_g {l : PySem.W.OpenLaw} {n k : Nat} {q : Program} {loose : List Str} {XP : (Str → Option Value) → Heap → Prop} {YP : World → Heap → Prop} {d : DefRec} {x : Str} {xf : Str → List Str} {rows : List Row} {fre : Nv} {wf : Nat}
    (hn : l.most = some n) (hn2 : n ≤ sizeLine) (hdf : d.params.defaults = []) (room : Room (k + 2) callerA)
    (F : ∀ (w : World) (mg : Str → Option Value) (fa : Addr) (h : Heap), YP w h → h.Ns mainGlobals mg → mg d.name = some (.ref fa) →
      ∃ (K : PySem.W.Frag) (fd : FuncData), K.In h ∧ (∀ (s : Shared) (u : Value), BindsTo s fd ⟨[u], []⟩ [(x, u)]) ∧ ∃ r ∈ rows, r.fn.name = ("law" : Str) ∧ r.ps = [x] ∧ r.fn.np = 1 ∧
        ∀ base : Heap, K.In base → base.Ns mainGlobals mg → HasFn ⟨l.prog, w, K, mg, base, xf, []⟩ r fa fd ∧ Tab ⟨l.prog, w, K, mg, base, xf, []⟩ rows fre)
    (uniq : ((rows.map (·.fn)).find? fun g => decide (g.name = ("law" : Str))).isSome = true → ∀ r ∈ rows, r.fn.name = ("law" : Str) → ((rows.map (·.fn)).find? fun g => decide (g.name = ("law" : Str))) = some r.fn)
    (pure_ : ∀ ns : List Int, ns.length ≤ n → ∃ h, callN (rows.map (·.fn)) wf k "law" [.slst (ns.map D.int)] [] = .ok (.bl true) h) :
    PySem.W.WalkO q loose XP YP l.row.toRowW d [] (fun f vs => PySem.call f vs) := by
  refine Att.attach_call hn hdf fun w s₀ s₁ mg mb fa o pm cd doc a vs ns G Y ho hd hcd hmg hobj hints hlen hg => ?_
  obtain ⟨K, fd, KX, bind, r, hr, rn, rp, r1, hF⟩ := F w mg fa _ Y G.T.g hmg
  cases k with
  | zero =>
    obtain ⟨h, e⟩ := pure_ ns hlen
    cases e
  | succ k =>
  refine law_run (xf := xf) (sp := fun base => spF ⟨l.prog, w, K, mg, base, xf, []⟩ (callN (rows.map (·.fn)) wf (k + 1)) "law" 1) KX G.T.g G.T.b G.T.builtins G.T.nolimit hg hobj hints (Nat.le_trans hlen hn2) room (fun base k1 k2 => ?_) bind
  obtain ⟨h1, h2⟩ := hF base k1 k2
  have some_ : ((rows.map (·.fn)).find? fun g => decide (g.name = ("law" : Str))).isSome = true := by
    rw [List.find?_isSome]
    exact ⟨r.fn, List.mem_map.mpr ⟨r, hr, rfl⟩, decide_eq_true rn⟩
  have chk := h2.chk
  rw [List.all_eq_true] at chk
  have A := row_ok (h2.hy wf k) h1 (chk r hr) (by rw [rn]; exact uniq some_ r hr rn)
  rw [rn, rp, r1] at A
  exact ⟨A.fn, fun H only S => law_sp (pure_ ns hlen) only S⟩

/-! ### from the head's facts -/
def Row.dd (r : Row) : He.DefD := ⟨(r.fn.name, none), r.fn.name, r.qual, r.params, r.body, r.scope, [], []⟩
/-- an exception class of the module, with the __init__ that it writes -/
structure XRow where
  cn : Str
  f : Str
  self : Str
  x : Str
  qual : Str
  params : Arguments
  body : List Stmt
  scope : Scope
def XRow.dd (r : XRow) : He.DefD := ⟨(r.cn, some "__init__"), "__init__", r.qual, r.params, r.body, r.scope, [], []⟩
def XRow.ok (r : XRow) : Bool := initShape r.self r.x r.f r.body && initScope r.self r.x r.scope && !(r.cn == ("__debug__" : Str))
def clsDef (s : Stmt) (j : Nat) : Stmt := match s with
  | .ClassDef _ _ _ body _ _ _ _ _ _ _ => body.getD j (.Pass ⟨0, 0, 0, 0⟩)
  | s => s
/-- a module's table: its defs, its exception classes, the builtins that it leaves alone -/
structure Mdl where
  rows : List Row
  xs : List XRow
  blt : List Str
def Mdl.nv (m : Mdl) : Nv := ⟨m.blt, m.xs.map fun r => (r.cn, r.f)⟩
def Mdl.dds (m : Mdl) : List He.DefD := m.rows.map Row.dd ++ m.xs.map XRow.dd
def Mdl.fas (m : Mdl) : List He.Fa := (m.rows.map fun r => He.Fa.glo r.fn.name) ++ ((m.xs.map fun r => He.Fa.glo r.cn) ++ m.blt.map He.Fa.free)
def Mdl.xf (m : Mdl) (cn : Str) : List Str := match m.xs.find? fun r => decide (r.cn = cn) with
  | some r => [r.f]
  | none => []
def Mdl.chk (m : Mdl) : Bool := m.rows.all (chkRow (m.rows.map fun r => (r.fn.name, r.fn.np)) m.nv) && m.xs.all XRow.ok && decide (m.xs.map XRow.cn).Nodup && (m.xs.isEmpty || m.blt.contains "ValueError")
open PySem.W in
def oexB (K : Frag) (C : Addr) : Bool := (match K.lookup C with
  | some ⟨.type "type", _, .cls cd, sl⟩ => (match cd.mro, sl.toList with
    | .ref C' :: bm, [_, _, _, _, some (.builtin n), _] => decide (C' = C) && decide (n = "ValueError.__new__") && !cd.hasDel && cd.hasDict && PySem.HandSPX.refsVE bm
    | _, _ => false)
  | _ => false) && decide (findIn K (.ref C) "__setattr__" = some (some (.builtin "object.__setattr__"))) && decide (subIn K (.ref C) (.type "BaseException") = some true) && decide (typeIn K (.ref C) = some (.type "type")) && keepIn K (.ref C)
open PySem.W in
theorem oexB_ok {K : Frag} {C : Addr} (h : oexB K C = true) : OexC K C := by
  unfold oexB at h
  simp only [Bool.and_eq_true, decide_eq_true_eq] at h
  obtain ⟨⟨⟨⟨h1, h2⟩, h3⟩, h4⟩, h5⟩ := h
  refine ⟨?_, h2, h3, h4, h5⟩
  split at h1
  · rename_i dd cd sl ho
    split at h1
    · rename_i C' bm k0 k1 k2 k3 n k5 hm hs
      simp only [Bool.and_eq_true, decide_eq_true_eq, Bool.not_eq_true'] at h1
      obtain ⟨⟨⟨⟨rfl, rfl⟩, hdel⟩, hd⟩, hr⟩ := h1
      obtain ⟨nm, bs, mro, ns, qn, hdct, sn, sub, ab, col, del⟩ := cd
      dsimp only at hm hdel hd
      subst hm hdel hd
      obtain ⟨l⟩ := sl
      simp only at hs
      subst hs
      exact ⟨nm, qn, ns, bs, bm, sn, sub, ab, col, dd, k0, k1, k2, k3, k5, ho, hr⟩
    · cases h1
  · cases h1
open PySem.W in
def isVeI : Option CFound → Bool
  | some (.val (.builtin n)) => decide (n = "ValueError.__init__")
  | _ => false
open PySem.W in
/-- one exception class -/
def xB (K : Frag) (r : XRow) : Bool := oexB K (He.ga K r.cn) && decide (findIn K (.ref (He.ga K r.cn)) "__init__" = some (some (.ref (He.fAd K (r.cn, some "__init__"))))) && decide (typeIn K (.ref (He.fAd K (r.cn, some "__init__"))) = some (.type "function"))
  && xfB K (He.ga K r.cn) && decide (findIn K (.ref (He.ga K r.cn)) r.f = some none) && decide (kitOne K (.ref (He.ga K r.cn)) (.type "ValueError") = some true) && isVeI (findCls K (.type "ValueError") (.type "type") "__init__")
open PySem.W in
def exK (xs : List XRow) (K : Frag) : Bool := xs.all (xB K) && xs.all fun r => xs.all fun q => decide (exmOne K (.ref (He.ga K r.cn)) (.ref (He.ga K q.cn)) = some (decide (r.cn = q.cn)))
/-- the head's facts, and those of the exception classes -/
def hookX (n : Nat) (m : Mdl) : PySem.W.Hook where
  α := Bool × He.AlD
  obs := fun s => (exK m.xs (He.frG s.heap.get? (He.asD s.heap.get? n)), He.obsDG n m.fas m.dds s.heap.get?)
  val := fun _ => (true, He.valD m.dds)
  says := fun _ h => ∃ K : PySem.W.Frag, K.In h ∧ He.SaysD m.fas m.dds K ∧ exK m.xs K = true
  of := fun _ _ e => ⟨_, He.frG_in, congrArg (fun z : Bool × He.AlD => z.2) e, congrArg (fun z : Bool × He.AlD => z.1) e⟩
  keeps := fun _ _ _ ⟨K, hK, c⟩ k => ⟨K, PySem.W.Frag.In.keeps hK k, c⟩
def obsX (n : Nat) (m : Mdl) (g : Addr → Option Obj) : Bool × He.AlD := (exK m.xs (He.frG g (He.asD g n)), He.obsDG n m.fas m.dds g)
theorem obsX_eq {n : Nat} {m : Mdl} {g : Addr → Option Obj} {s : Shared} (h : ∀ a, g a = s.heap.get? a) : obsX n m g = (hookX n m).obs s := by
  have e : g = s.heap.get? := funext h
  rw [e] <;> rfl
/-- its arguments are bound by place -/
def BindOk (r : Row) : Prop := ∀ (name : Str) (kV doc pm : Value) (an : Option Addr) (cdv ct : Value) (us : List Value), us.length = r.ps.length →
  bindArgs (PySem.W.fnOf name r.qual r.params r.body r.scope .none kV doc pm an cdv ct) ⟨us, []⟩ = pure (r.ps.zip us)
def BindX (r : XRow) : Prop := ∀ (name : Str) (kV doc pm : Value) (an : Option Addr) (cdv ct : Value) (us : List Value), us.length = [r.self, r.x].length →
  bindArgs (PySem.W.fnOf name r.qual r.params r.body r.scope .none kV doc pm an cdv ct) ⟨us, []⟩ = pure ([r.self, r.x].zip us)
section
variable {P : Program} {w : World} {K : PySem.W.Frag} {mg : Str → Option Value} {base : Heap} {M : Mdl}
theorem at_ {α : Type} {l : List α} {r : α} (m : r ∈ l) : ∃ i : Nat, l[i]? = some r := by
  obtain ⟨i, hi, e⟩ := List.mem_iff_getElem.mp m
  exact ⟨i, by rw [← e]; simp [hi]⟩
theorem fact_ (c : He.SaysD M.fas M.dds K) {f : He.Fa} (m : f ∈ M.fas) : f.ok K = true := by
  obtain ⟨i, e⟩ := at_ m
  exact c.fact i e
theorem has_gen (c : He.SaysD M.fas M.dds K) (X : K.In base) (N : base.Ns mainGlobals mg) {r : Row} (m : r ∈ M.rows) (bd : BindOk r) :
    ∃ fd, HasFn ⟨P, w, K, mg, base, M.xf, []⟩ r (He.ga K r.fn.name) fd ∧ ∀ (s : Shared) (us : List Value), us.length = r.ps.length → BindsTo s fd ⟨us, []⟩ (r.ps.zip us) := by
  obtain ⟨i, hi⟩ := at_ (show r.dd ∈ M.dds from List.mem_append.mpr (.inl (List.mem_map.mpr ⟨r, m, rfl⟩)))
  obtain ⟨fd, F⟩ := c.def_ i hi
  have F : FunD K r.fn.name r.qual r.params r.body r.scope [] [] (He.ga K r.fn.name) fd := F
  have g := He.glo_ok X N (x := r.fn.name) (fact_ c (List.mem_append.mpr (.inl (List.mem_map.mpr ⟨r, m, rfl⟩))))
  obtain ⟨oc, od, dV, kV, doc, pm, an, cdv, ct, osl, e, lk, hcd, _, _⟩ := F.ex
  exact ⟨fd, ⟨⟨_, oc, od, dV, kV, doc, pm, an, cdv, ct, osl, e, lk, hcd⟩, g, F.kp, F.bindsN (ps := r.ps) fun kV doc pm an cdv ct us hl => bd _ kV doc pm an cdv ct us hl⟩,
    fun s us hl => FunD.bindsA (ps := r.ps) F (fun kV doc pm an cdv ct us hl => bd _ kV doc pm an cdv ct us hl) s us hl⟩
theorem blt_gen (c : He.SaysD M.fas M.dds K) (X : K.In base) (N : base.Ns mainGlobals mg) {x : Str} (m : x ∈ M.blt) : mg x = none :=
  He.free_ok X N (fact_ c (f := .free x) (List.mem_append.mpr (.inr (List.mem_append.mpr (.inr (List.mem_map.mpr ⟨x, m, rfl⟩))))))
theorem cls_gen (c : He.SaysD M.fas M.dds K) (X : K.In base) (N : base.Ns mainGlobals mg) {r : XRow} (m : r ∈ M.xs) : mg r.cn = some (.ref (He.ga K r.cn)) :=
  He.glo_ok X N (fact_ c (f := .glo r.cn) (List.mem_append.mpr (.inr (List.mem_append.mpr (.inl (List.mem_map.mpr ⟨r, m, rfl⟩))))))
theorem xf_at : ∀ {xs : List XRow}, (xs.map XRow.cn).Nodup → ∀ {r : XRow}, r ∈ xs → (xs.find? fun q => decide (q.cn = r.cn)) = some r
  | [], _, _, m => by cases m
  | q :: xs, nd, r, m => by
    rw [List.map_cons, List.nodup_cons] at nd
    rw [List.find?_cons]
    rcases List.mem_cons.mp m with rfl | m
    · rw [decide_eq_true rfl]
    · have : q.cn ≠ r.cn := fun e => nd.1 (by rw [e]; exact List.mem_map.mpr ⟨r, m, rfl⟩)
      rw [decide_eq_false this]
      exact xf_at nd.2 m
theorem xc_gen (c : He.SaysD M.fas M.dds K) (X : K.In base) (N : base.Ns mainGlobals mg) (ex : exK M.xs K = true) (chk : M.chk = true) {r : XRow} (m : r ∈ M.xs) (bd : BindX r) : XcAt ⟨P, w, K, mg, base, M.xf, []⟩ r.cn r.f := by
  unfold Mdl.chk at chk
  simp only [Bool.and_eq_true, List.all_eq_true, decide_eq_true_eq, Bool.or_eq_true] at chk
  obtain ⟨⟨⟨-, hx⟩, nd⟩, ve⟩ := chk
  have ok := hx r m
  unfold XRow.ok at ok
  simp only [Bool.and_eq_true, Bool.not_eq_true'] at ok
  obtain ⟨⟨k1, k2⟩, k3⟩ := ok
  have nv : mg "ValueError" = none := by
    rcases ve with z | z
    · rw [List.isEmpty_iff] at z; rw [z] at m; cases m
    · exact blt_gen c X N (by simpa using z)
  unfold exK at ex
  rw [Bool.and_eq_true, List.all_eq_true] at ex
  have e1 := ex.1 r m
  unfold xB at e1
  simp only [Bool.and_eq_true, decide_eq_true_eq] at e1
  obtain ⟨⟨⟨⟨⟨⟨a1, a2⟩, a3⟩, a4⟩, a5⟩, a6⟩, a7⟩ := e1
  obtain ⟨i, hi⟩ := at_ (show r.dd ∈ M.dds from List.mem_append.mpr (.inr (List.mem_map.mpr ⟨r, m, rfl⟩)))
  obtain ⟨fd, F⟩ := c.def_ i hi
  have F : FunD K "__init__" r.qual r.params r.body r.scope [] [] (He.fAd K (r.cn, some "__init__")) fd := F
  have g := cls_gen c X N m
  have ve2 : PySem.W.findCls K (.type "ValueError") (.type "type") "__init__" = some (.val (.builtin "ValueError.__init__")) := by
    unfold isVeI at a7
    split at a7
    · rename_i n e
      rw [decide_eq_true_eq] at a7
      rw [e, a7]
    · cases a7
  have B := F.bindsN (ps := [r.self, r.x]) fun kV doc pm an cdv ct us hl => bd _ kV doc pm an cdv ct us hl
  obtain ⟨oc, od, dV, kV, doc, pm, an, cdv, ct, osl, rfl, lk, hcd, _, _⟩ := F.ex
  refine ⟨⟨He.ga K r.cn, _, _, [r.self, r.x], g, oexB_ok a1, a2, a3, init_fn (G := ⟨P, w, K, mg, base, M.xf, []⟩) lk hcd k1 k2 nv ve2, B, xfB_ok a4, a5⟩, ?_, k3, fun C e => ?_⟩
  · show M.xf r.cn = [r.f]
    unfold Mdl.xf
    rw [xf_at nd m]
  · have e : mg r.cn = some (.ref C) := e
    rw [g] at e
    injection e with e; injection e with e
    subst e; exact a6
theorem tab_gen (c : He.SaysD M.fas M.dds K) (X : K.In base) (N : base.Ns mainGlobals mg) (ex : exK M.xs K = true) (bd : ∀ r ∈ M.rows, BindOk r) (bx : ∀ r ∈ M.xs, BindX r) (chk : M.chk = true) :
    Tab ⟨P, w, K, mg, base, M.xf, []⟩ M.rows M.nv := by
  refine ⟨fun r m => ?_, ?_, fun x m => blt_gen c X N m, fun p m => ?_, fun p m q n C D e1 e2 => ?_⟩
  · obtain ⟨fd, h, -⟩ := has_gen (P := P) (w := w) c X N m (bd r m)
    exact ⟨_, fd, h⟩
  · unfold Mdl.chk at chk
    simp only [Bool.and_eq_true] at chk
    exact chk.1.1.1
  · obtain ⟨r, mr, rfl⟩ := List.mem_map.mp m
    exact xc_gen c X N ex chk mr (bx r mr)
  · obtain ⟨r, mr, rfl⟩ := List.mem_map.mp m
    obtain ⟨r', nr, rfl⟩ := List.mem_map.mp n
    have e1 : mg r.cn = some (.ref C) := e1
    have e2 : mg r'.cn = some (.ref D) := e2
    rw [cls_gen c X N mr] at e1
    rw [cls_gen c X N nr] at e2
    injection e1 with e1; injection e1 with e1
    injection e2 with e2; injection e2 with e2
    subst e1 e2
    unfold exK at ex
    simp only [Bool.and_eq_true, List.all_eq_true, decide_eq_true_eq] at ex
    exact ex.2 r mr r' nr
end
theorem uniq_of {fns : List Fn} : ∀ {rows : List Row}, (rows.map fun r => r.fn.name).Nodup → ∀ {r : Row}, r ∈ rows → ((rows.map (·.fn)).find? fun g => decide (g.name = r.fn.name)) = some r.fn
  | [], _, _, m => by cases m
  | q :: rows, nd, r, m => by
    rw [List.map_cons, List.nodup_cons] at nd
    rw [List.map_cons, List.find?_cons]
    rcases List.mem_cons.mp m with rfl | m
    · rw [decide_eq_true rfl]
    · have : q.fn.name ≠ r.fn.name := fun e => nd.1 (by rw [e]; exact List.mem_map.mpr ⟨r, m, rfl⟩)
      rw [decide_eq_false this]
      exact uniq_of (fns := fns) nd.2 m
/-- a law, from its table and the evaluator's answer -/
theorem walk_all {l : PySem.W.OpenLaw} {n k : Nat} {q : Program} {loose : List Str} {XP : (Str → Option Value) → Heap → Prop} {d : DefRec} {x : Str} {M : Mdl} {wf : Nat} {rl : Row} {hn4 : Nat}
    (hn : l.most = some n) (hn2 : n ≤ sizeLine) (hdf : d.params.defaults = []) (room : Room (k + 2) PySem.callerA) (dn : d.name = ("law" : Str)) (ml : rl ∈ M.rows) (rn : rl.fn.name = ("law" : Str)) (rp : rl.ps = [x]) (r1 : rl.fn.np = 1)
    (bd : ∀ r ∈ M.rows, BindOk r) (bx : ∀ r ∈ M.xs, BindX r) (chk : M.chk = true) (nd : (M.rows.map fun r => r.fn.name).Nodup)
    (pure_ : ∀ ns : List Int, ns.length ≤ n → ∃ h, callN (M.rows.map (·.fn)) wf k "law" [.slst (ns.map D.int)] [] = .ok (.bl true) h) :
    PySem.W.WalkO q loose XP (hookX hn4 M).says l.row.toRowW d [] (fun f vs => PySem.call f vs) := by
  refine walk_g (x := x) (xf := M.xf) (rows := M.rows) (fre := M.nv) (wf := wf) (k := k) hn hn2 hdf room ?_ (fun _ r m e => by rw [← e]; exact uniq_of (fns := []) nd m) pure_
  rintro w mg fa h ⟨K, KX, c, ex⟩ Ns hmg
  rw [dn] at hmg
  obtain ⟨fd, h1, h2⟩ := has_gen (P := l.prog) (w := w) c KX Ns ml (bd rl ml)
  have e : fa = He.ga K rl.fn.name := by
    have := h1.mg
    rw [rn] at this
    have z := hmg.symm.trans this
    rw [rn]
    injection z with z
    injection z
  subst e
  refine ⟨K, fd, KX, fun s u => ?_, rl, ml, rn, rp, r1, fun base k1 k2 => ⟨?_, tab_gen c k1 k2 ex bd bx chk⟩⟩
  · have := h2 s [u] (by rw [rp]; rfl)
    rw [rp] at this
    exact this
  · obtain ⟨fd2, q1, -⟩ := has_gen (P := l.prog) (w := w) c k1 k2 ml (bd rl ml)
    obtain ⟨n1, o1, o2, o3, o4, o5, o6, o7, o8, o9, o10, e1, e2, -⟩ := q1.ex
    obtain ⟨m1, p1, p2, p3, p4, p5, p6, p7, p8, p9, p10, f1, f2, -⟩ := h1.ex
    have : fd2 = fd := by
      have z := e2.symm.trans f2
      injection z with z
      injection z with _ _ z _
      injection z
    rw [← this]; exact q1
end Rx

/-! RyA: the pen of drawn numbers. -/
namespace Rx
open PySem L2
def penB : Ss :=
  .cons (.ret (.lstM (.cons (.b1 .list (.slc (.var 0) (.c .hole) (.c (.int 63)))) (.cons (.c (.int 0)) (.cons (.c (.int 0)) .nil))))) <|
  .nil
def freshL : Ss := (.cons (.asg (.nm 4) (.bin .mod (.b1 .int (.bin .add (.bin .add (.bin .mul (.var 4) (.var 4)) (.bin .mul (.bin .mul (.c (.int 69621)) (.bin .add (.var 6) (.c (.int 1)))) (.bin .add (.var 1) (.c (.int 1))))) (.var 2))) (.var 3))) (.cons (.asg (.nm 5) (.bin .add (.bin .mul (.var 5) (.var 3)) (.var 4))) .nil))
def freshB : Ss :=
  .cons (.asg (.nm 1) (.ix (.var 0) (.c (.int 1)))) <|
  .cons (.asg (.sub (.var 0) (.c (.int 1))) (.bin .add (.var 1) (.c (.int 1)))) <|
  .cons (.asg (.nm 2) (.c (.int 0))) <|
  .cons (.ite (.cmp .ne (.ix (.var 0) (.c (.int 0))) (.lstF .nil)) (.cons (.asg (.nm 2) (.ix (.ix (.var 0) (.c (.int 0))) (.bin .mod (.b1 .int (.var 1)) (.b1 .len (.ix (.var 0) (.c (.int 0))))))) .nil) .nil) <|
  .cons (.ite (.and_ (.cmp .lt (.var 1) (.b1 .len (.ix (.var 0) (.c (.int 0))))) (.cmp .ge (.var 2) (.bin .pow (.c (.int 10)) (.c (.int 18))))) (.cons (.ret (.bin .sub (.var 2) (.bin .pow (.c (.int 10)) (.c (.int 18))))) .nil) .nil) <|
  .cons (.asg (.nm 3) (.c (.int 2305843009213693951))) <|
  .cons (.asg (.nm 4) (.bin .mod (.b1 .int (.bin .add (.bin .add (.bin .mul (.var 2) (.c (.int 48271))) (.bin .mul (.c (.int 40692)) (.var 1))) (.c (.int 31)))) (.var 3))) <|
  .cons (.asg (.nm 5) (.var 4)) <|
  .cons (.for_ (.rng (.cons (.c (.int 6)) .nil)) (.nm 6) freshL) <|
  .cons (.ret (.var 5)) <|
  .nil
def drawB : Ss :=
  .cons (.ite (.cmp .lt (.ix (.var 0) (.c (.int 2))) (.var 1)) (.cons (.asg (.sub (.var 0) (.c (.int 2))) (.call .ef "_law_fresh" (.cons (.var 0) .nil))) .nil) .nil) <|
  .cons (.asg (.nm 2) (.bin .mod (.b1 .int (.ix (.var 0) (.c (.int 2)))) (.var 1))) <|
  .cons (.asg (.sub (.var 0) (.c (.int 2))) (.bin .fdiv (.b1 .int (.ix (.var 0) (.c (.int 2)))) (.var 1))) <|
  .cons (.ret (.var 2)) <|
  .nil
abbrev look (T : List Fn) (name : Str) : Option Fn := T.find? fun g => decide (g.name = name)
structure PenT (T : List Fn) : Prop where
  pen : look T "_law_pen" = some ⟨"_law_pen", 1, 1, penB⟩
  fresh : look T "_law_fresh" = some ⟨"_law_fresh", 1, 7, freshB⟩
  draw : look T "_law_draw" = some ⟨"_law_draw", 2, 3, drawB⟩
def penO (cs : List Int) (at_ st : Int) : Ob := .lst [.lst (cs.map D.int), .int at_, .int st]
variable {T : List Fn} {w k : Nat} {h : Hq} {p : Nat} {cs : List Int} {at_ st : Int}
theorem call_as {f : Fn} {ds : List D} (e : look T f.name = some f) (hl : ds.length = f.np) : callN T w (k + 1) f.name ds h = endOf (evSs (callN T w k) w f.body (ds.map some ++ List.replicate (f.ns - f.np) none) h) := by
  show (match T.find? fun g => decide (g.name = f.name) with
    | some g => runFn (callN T w k) w g ds h
    | none => .er) = _
  have e : (T.find? fun g => decide (g.name = f.name)) = some f := e
  rw [e]
  show (if ds.length = f.np then _ else _) = _
  rw [if_pos hl]
theorem ints_plain (ns : List Int) (n : Nat) : Rx.plain (n + 1) (.lst (ns.map D.int)) = true := by simp [Rx.plain]
theorem ne_nilL (ns : List Int) (h : Hq) : cmpD h .ne (.lst (ns.map D.int)) (.lst []) = some (!ns.isEmpty) := by
  have e : eqD h (.lst (ns.map D.int)) (.lst []) = some ns.isEmpty := by
    show (if Rx.plain 60 (.lst (ns.map D.int)) && Rx.plain 60 (.lst []) then some (eqv (.lst (ns.map D.int)) (.lst [])) else none) = _
    rw [ints_plain ns 59]
    cases ns <;> rfl
  show (eqD h (.lst (ns.map D.int)) (.lst [])).map (!·) = _
  rw [e]; rfl
theorem ix_pen (hp : h[p]? = some (penO cs at_ st)) : ixD h (.ref p) (.int 0) = some (.lst (cs.map D.int)) ∧ ixD h (.ref p) (.int 1) = some (.int at_) ∧ ixD h (.ref p) (.int 2) = some (.int st) := by
  have v : view h (.ref p) = .lst [.lst (cs.map D.int), .int at_, .int st] := by
    show (match h[p]? with
      | some (.lst xs) => D.lst xs
      | some (.dct ks vs) => D.dct ks vs
      | _ => D.ref p) = _
    rw [hp]; rfl
  refine ⟨?_, ?_, ?_⟩ <;> (unfold ixD; rw [v]; rfl)
theorem set_pen {j : Int} {v : D} (hp : h[p]? = some (penO cs at_ st)) : setOb h (.ref p) (.int j) v = (natIx 3 j).map fun n => h.set p (.lst ([.lst (cs.map D.int), .int at_, .int st].set n v)) := by
  have l : lstAt h (.ref p) = some [.lst (cs.map D.int), .int at_, .int st] := by
    show (match h[p]? with
      | some (.lst xs) => some xs
      | _ => none) = _
    rw [hp]; rfl
  unfold setOb
  rw [l]; rfl
/-- the six turns -/
theorem fresh_loop {cl : Cl} {d0 : D} {c : Int} (ha : 0 ≤ at_) : ∀ (ts : List Int), (∀ t ∈ ts, 0 ≤ t ∧ t < 6) → ∀ (s f : Int) (x : Option D), 0 ≤ s → s < 2305843009213693951 → 0 ≤ f →
    ∃ s' f' x', 0 ≤ f' ∧ forL none (fun d ρ h => evT cl (.nm 6) d ρ h) (fun ρ h => evSs cl w freshL ρ h) (ts.map D.int) [some d0, some (.int at_), some (.int c), some (.int 2305843009213693951), some (.int s), some (.int f), x] h =
      .nx [some d0, some (.int at_), some (.int c), some (.int 2305843009213693951), some (.int s'), some (.int f'), x'] h
  | [], _, s, f, x, h1, h2, h3 => ⟨s, f, x, h3, rfl⟩
  | t :: ts, ht, s, f, x, h1, h2, h3 => by
    have t6 := ht t (by simp)
    have bs : big s = true := by unfold big; simp; omega
    have b1 : big 69621 = true := by decide
    have bp : big 2305843009213693951 = true := by decide
    have step : evSs cl w freshL [some d0, some (.int at_), some (.int c), some (.int 2305843009213693951), some (.int s), some (.int f), some (.int t)] h =
        .nx [some d0, some (.int at_), some (.int c), some (.int 2305843009213693951), some (.int ((s * s + 69621 * (t + 1) * (at_ + 1) + c) % 2305843009213693951)), some (.int (f * 2305843009213693951 + (s * s + 69621 * (t + 1) * (at_ + 1) + c) % 2305843009213693951)), some (.int t)] h := by
      have m1 : binD h .mul (.int s) (.int s) = some (.int (s * s)) := by
        show (if big s || big s then some (D.int (s * s)) else none) = _
        rw [bs]; rfl
      have m2 : ∀ y, binD h .mul (.int 69621) (.int y) = some (.int (69621 * y)) := fun y => by
        show (if big 69621 || big y then some (D.int (69621 * y)) else none) = _
        rw [b1]; rfl
      have m4 : binD h .mul (.int f) (.int 2305843009213693951) = some (.int (f * 2305843009213693951)) := by
        show (if big f || big 2305843009213693951 then some (D.int (f * 2305843009213693951)) else none) = _
        rw [bp, Bool.or_true]; rfl
      have m3 : binD h .mul (.int (69621 * (t + 1))) (.int (at_ + 1)) = some (.int (69621 * (t + 1) * (at_ + 1))) := by
        show (if big (69621 * (t + 1)) || big (at_ + 1) then some (D.int (69621 * (t + 1) * (at_ + 1))) else none) = _
        have : big (69621 * (t + 1)) = true := by unfold big; simp; omega
        rw [this]; rfl
      have ad : ∀ x y, binD h .add (.int x) (.int y) = some (.int (x + y)) := fun _ _ => rfl
      have md : ∀ x, binD h .mod (.int x) (.int 2305843009213693951) = some (.int (x % 2305843009213693951)) := fun x => by
        show (if (0 : Int) < 2305843009213693951 then some (D.int (x % 2305843009213693951)) else none) = _
        rw [if_pos (by decide)]
      simp only [freshL, evSs, evS, evE, evT, List.getElem?_cons_succ, List.getElem?_cons_zero, R.bind_ok, Out.of_ok, R.of_some, ad, m1, m2, m3, md, b1D, List.set_cons_succ, List.set_cons_zero, m4]
    obtain ⟨s', f', x', q1, q2⟩ := fresh_loop ha ts ((fun u m => ht u (by simp [m]))) ((s * s + 69621 * (t + 1) * (at_ + 1) + c) % 2305843009213693951) (f * 2305843009213693951 + (s * s + 69621 * (t + 1) * (at_ + 1) + c) % 2305843009213693951) (some (.int t))
      (Int.emod_nonneg _ (by decide)) (Int.emod_lt_of_pos _ (by decide)) (by have := Int.emod_nonneg (s * s + 69621 * (t + 1) * (at_ + 1) + c) (show (2305843009213693951 : Int) ≠ 0 by decide); omega)
    refine ⟨s', f', x', q1, ?_⟩
    rw [List.map_cons]
    show (match evSs cl w freshL [some d0, some (.int at_), some (.int c), some (.int 2305843009213693951), some (.int s), some (.int f), some (.int t)] h with
      | .nx ρ2 h2 => forL none (fun d ρ h => evT cl (.nm 6) d ρ h) (fun ρ h => evSs cl w freshL ρ h) (ts.map D.int) ρ2 h2
      | .ct ρ2 h2 => forL none (fun d ρ h => evT cl (.nm 6) d ρ h) (fun ρ h => evSs cl w freshL ρ h) (ts.map D.int) ρ2 h2
      | .bk ρ2 h2 => .nx ρ2 h2
      | o => o) = _
    rw [step]
    exact q2

def freshT : Ss :=
  .cons (.ite (.and_ (.cmp .lt (.var 1) (.b1 .len (.ix (.var 0) (.c (.int 0))))) (.cmp .ge (.var 2) (.bin .pow (.c (.int 10)) (.c (.int 18))))) (.cons (.ret (.bin .sub (.var 2) (.bin .pow (.c (.int 10)) (.c (.int 18))))) .nil) .nil) <|
  .cons (.asg (.nm 3) (.c (.int 2305843009213693951))) <|
  .cons (.asg (.nm 4) (.bin .mod (.b1 .int (.bin .add (.bin .add (.bin .mul (.var 2) (.c (.int 48271))) (.bin .mul (.c (.int 40692)) (.var 1))) (.c (.int 31)))) (.var 3))) <|
  .cons (.asg (.nm 5) (.var 4)) <|
  .cons (.for_ (.rng (.cons (.c (.int 6)) .nil)) (.nm 6) freshL) <|
  .cons (.ret (.var 5)) <|
  .nil
theorem add_ii (x y : Int) : binD h .add (.int x) (.int y) = some (.int (x + y)) := rfl
theorem sub_ii (x y : Int) : binD h .sub (.int x) (.int y) = some (.int (x - y)) := rfl
theorem mulL {x y : Int} (b : big x = true) : binD h .mul (.int x) (.int y) = some (.int (x * y)) := by
  show (if big x || big y then some (D.int (x * y)) else none) = _
  rw [b]; rfl
theorem mulR {x y : Int} (b : big y = true) : binD h .mul (.int x) (.int y) = some (.int (x * y)) := by
  show (if big x || big y then some (D.int (x * y)) else none) = _
  rw [b, Bool.or_true]; rfl
theorem mod_ii {x y : Int} (hy : 0 < y) : binD h .mod (.int x) (.int y) = some (.int (x % y)) := by
  show (if (0 : Int) < y then some (D.int (x % y)) else none) = _
  rw [if_pos hy]
theorem fdiv_ii {x y : Int} (hy : 0 < y) (hz : y < 1073741824) : binD h .fdiv (.int x) (.int y) = some (.int (x / y)) := by
  show (if (0 : Int) < y ∧ y < 1073741824 then some (D.int (x / y)) else none) = _
  rw [if_pos ⟨hy, hz⟩]
theorem pow18 : binD h .pow (.int 10) (.int 18) = some (.int 1000000000000000000) := rfl
theorem lt_ii (x y : Int) : cmpD h .lt (.int x) (.int y) = some (decide (x < y)) := rfl
theorem ge_ii (x y : Int) : cmpD h .ge (.int x) (.int y) = some (decide (y ≤ x)) := rfl
theorem len_l (xs : List D) : b1D h .len (.lst xs) = .ok (.int (xs.length : Nat)) h := rfl
theorem tru_bl (b : Bool) : tru h (.bl b) = some b := rfl
theorem int_i (x : Int) : b1D h .int (.int x) = .ok (.int x) h := rfl
theorem seq_nx {cl : Cl} {s : S} {ss : Ss} {ρ ρ1 : Ev} {h h1 : Hq} (e : evS cl w s ρ h = .nx ρ1 h1) : evSs cl w (.cons s ss) ρ h = evSs cl w ss ρ1 h1 := by
  rw [evSs, e]
theorem fresh_tail {cl : Cl} (hp : h[p]? = some (penO cs st at_)) {a c : Int} (ha : 0 ≤ a) : ∃ f ρ, 0 ≤ f ∧ evSs cl w freshT [some (.ref p), some (.int a), some (.int c), none, none, none, none] h = .rt (.int f) ρ h := by
  obtain ⟨e0, e1, e2⟩ := ix_pen hp
  by_cases hb : a < (cs.length : Int) ∧ 1000000000000000000 ≤ c
  · refine ⟨c - 1000000000000000000, [some (.ref p), some (.int a), some (.int c), none, none, none, none], by omega, ?_⟩
    simp only [freshT, evSs, evS, evE, List.getElem?_cons_succ, List.getElem?_cons_zero, R.bind_ok, R.of_some, e0, len_l, lt_ii, ge_ii, pow18, sub_ii, Option.map, tru_bl, tst, List.length_map, hb.1, hb.2, decide_true, if_true, Out.of_ok]
  · have rest : ∃ f ρ, 0 ≤ f ∧ evSs cl w (match freshT with | .cons _ r => r | .nil => .nil) [some (.ref p), some (.int a), some (.int c), none, none, none, none] h = .rt (.int f) ρ h := by
      have b1 : big 48271 = true := by decide
      have b2 : big 40692 = true := by decide
      have nn : (0 : Int) ≤ (c * 48271 + 40692 * a + 31) % 2305843009213693951 := Int.emod_nonneg _ (by decide)
      obtain ⟨s', f', x', q1, q2⟩ := fresh_loop (w := w) (h := h) (cl := cl) (d0 := .ref p) (c := c) ha [0, 1, 2, 3, 4, 5] (by decide) ((c * 48271 + 40692 * a + 31) % 2305843009213693951) ((c * 48271 + 40692 * a + 31) % 2305843009213693951) none nn (Int.emod_lt_of_pos _ (by decide)) nn
      refine ⟨f', [some (.ref p), some (.int a), some (.int c), some (.int 2305843009213693951), some (.int s'), some (.int f'), x'], q1, ?_⟩
      have r6 : evIt cl (.rng (.cons (.c (.int 6)) .nil)) [some (.ref p), some (.int a), some (.int c), some (.int 2305843009213693951), some (.int ((c * 48271 + 40692 * a + 31) % 2305843009213693951)), some (.int ((c * 48271 + 40692 * a + 31) % 2305843009213693951)), none] h = .ok (none, [0, 1, 2, 3, 4, 5].map D.int) h := rfl
      have t1 : evS cl w (.asg (.nm 3) (.c (.int 2305843009213693951))) [some (.ref p), some (.int a), some (.int c), none, none, none, none] h = .nx [some (.ref p), some (.int a), some (.int c), some (.int 2305843009213693951), none, none, none] h := rfl
      have t2 : evS cl w (.asg (.nm 4) (.bin .mod (.b1 .int (.bin .add (.bin .add (.bin .mul (.var 2) (.c (.int 48271))) (.bin .mul (.c (.int 40692)) (.var 1))) (.c (.int 31)))) (.var 3))) [some (.ref p), some (.int a), some (.int c), some (.int 2305843009213693951), none, none, none] h =
          .nx [some (.ref p), some (.int a), some (.int c), some (.int 2305843009213693951), some (.int ((c * 48271 + 40692 * a + 31) % 2305843009213693951)), none, none] h := by
        simp only [evS, evE, evT, List.getElem?_cons_succ, List.getElem?_cons_zero, R.bind_ok, R.of_some, add_ii, mulL b2, mulR b1, mod_ii (show (0 : Int) < 2305843009213693951 by decide), int_i, List.set_cons_succ, List.set_cons_zero, Out.of_ok]
      have t3 : evS cl w (.asg (.nm 5) (.var 4)) [some (.ref p), some (.int a), some (.int c), some (.int 2305843009213693951), some (.int ((c * 48271 + 40692 * a + 31) % 2305843009213693951)), none, none] h =
          .nx [some (.ref p), some (.int a), some (.int c), some (.int 2305843009213693951), some (.int ((c * 48271 + 40692 * a + 31) % 2305843009213693951)), some (.int ((c * 48271 + 40692 * a + 31) % 2305843009213693951)), none] h := rfl
      have t4 : evS cl w (.for_ (.rng (.cons (.c (.int 6)) .nil)) (.nm 6) freshL) [some (.ref p), some (.int a), some (.int c), some (.int 2305843009213693951), some (.int ((c * 48271 + 40692 * a + 31) % 2305843009213693951)), some (.int ((c * 48271 + 40692 * a + 31) % 2305843009213693951)), none] h =
          .nx [some (.ref p), some (.int a), some (.int c), some (.int 2305843009213693951), some (.int s'), some (.int f'), x'] h := by
        rw [evS, r6]
        exact q2
      show evSs cl w (.cons (.asg (.nm 3) (.c (.int 2305843009213693951))) (.cons (.asg (.nm 4) (.bin .mod (.b1 .int (.bin .add (.bin .add (.bin .mul (.var 2) (.c (.int 48271))) (.bin .mul (.c (.int 40692)) (.var 1))) (.c (.int 31)))) (.var 3)))
        (.cons (.asg (.nm 5) (.var 4)) (.cons (.for_ (.rng (.cons (.c (.int 6)) .nil)) (.nm 6) freshL) (.cons (.ret (.var 5)) .nil))))) _ h = _
      rw [seq_nx t1, seq_nx t2, seq_nx t3, seq_nx t4]
      rfl
    obtain ⟨f, ρ, h1, h2⟩ := rest
    refine ⟨f, ρ, h1, ?_⟩
    rw [← h2]
    have e : evS cl w (.ite (.and_ (.cmp .lt (.var 1) (.b1 .len (.ix (.var 0) (.c (.int 0))))) (.cmp .ge (.var 2) (.bin .pow (.c (.int 10)) (.c (.int 18))))) (.cons (.ret (.bin .sub (.var 2) (.bin .pow (.c (.int 10)) (.c (.int 18))))) .nil) .nil) [some (.ref p), some (.int a), some (.int c), none, none, none, none] h =
        .nx [some (.ref p), some (.int a), some (.int c), none, none, none, none] h := by
      by_cases h3 : a < (cs.length : Int)
      · have h4 : ¬ 1000000000000000000 ≤ c := fun z => hb ⟨h3, z⟩
        simp only [evSs, evS, evE, List.getElem?_cons_succ, List.getElem?_cons_zero, R.bind_ok, R.of_some, e0, len_l, lt_ii, ge_ii, pow18, Option.map, tru_bl, tst, List.length_map, h3, h4, decide_true, decide_false, if_true, if_false, Out.of_ok, Bool.false_eq_true]
      · simp only [evSs, evS, evE, List.getElem?_cons_succ, List.getElem?_cons_zero, R.bind_ok, R.of_some, e0, len_l, lt_ii, ge_ii, pow18, Option.map, tru_bl, tst, List.length_map, h3, decide_true, decide_false, if_true, if_false, Out.of_ok, Bool.false_eq_true]
    show (match evS cl w _ _ h with
      | .nx ρ1 h1 => evSs cl w _ ρ1 h1
      | o => o) = _
    rw [e]
    rfl

theorem ix_l {xs : List Int} {i : Int} {j : Nat} (e : natIx xs.length i = some j) : ∃ c, ixD h (.lst (xs.map D.int)) (.int i) = some (.int c) := by
  have hj : j < xs.length := by
    unfold natIx at e
    split at e
    · split at e
      · cases e; assumption
      · cases e
    · split at e
      · cases e; omega
      · cases e
  refine ⟨xs[j], ?_⟩
  show ((natIx (xs.map D.int).length i).bind fun n => (xs.map D.int)[n]?) = _
  rw [List.length_map, e]
  simp [hj]
theorem lt_get {i : Nat} {o : Ob} (e : h[i]? = some o) : i < h.length := (List.getElem?_eq_some_iff.mp e).1
theorem fresh_ok (pt : PenT T) (hp : h[p]? = some (penO cs at_ st)) (ha : 0 ≤ at_) : ∃ f, 0 ≤ f ∧ callN T w (k + 1) "_law_fresh" [.ref p] h = .ok (.int f) (h.set p (penO cs (at_ + 1) st)) := by
  have hp1 : (h.set p (penO cs (at_ + 1) st))[p]? = some (penO cs (at_ + 1) st) := List.getElem?_set_self (lt_get hp)
  obtain ⟨e0, e1, e2⟩ := ix_pen hp
  obtain ⟨g0, g1, g2⟩ := ix_pen hp1
  have sp : ∀ v, setOb h (.ref p) (.int 1) (.int v) = some (h.set p (penO cs v st)) := fun v => set_pen hp
  have main : ∀ c : Int, evSs (callN T w k) w (match freshB with | .cons _ (.cons _ (.cons _ (.cons _ r))) => r | r => r) [some (.ref p), some (.int at_), some (.int c), none, none, none, none] (h.set p (penO cs (at_ + 1) st)) =
      evSs (callN T w k) w freshT [some (.ref p), some (.int at_), some (.int c), none, none, none, none] (h.set p (penO cs (at_ + 1) st)) := fun c => rfl
  have cell : ∃ c : Int, evS (callN T w k) w (.ite (.cmp .ne (.ix (.var 0) (.c (.int 0))) (.lstF .nil)) (.cons (.asg (.nm 2) (.ix (.ix (.var 0) (.c (.int 0))) (.bin .mod (.b1 .int (.var 1)) (.b1 .len (.ix (.var 0) (.c (.int 0))))))) .nil) .nil)
      [some (.ref p), some (.int at_), some (.int 0), none, none, none, none] (h.set p (penO cs (at_ + 1) st)) = .nx [some (.ref p), some (.int at_), some (.int c), none, none, none, none] (h.set p (penO cs (at_ + 1) st)) := by
    cases hc : cs with
    | nil =>
      subst hc
      refine ⟨0, ?_⟩
      simp only [evSs, evS, evE, evEs, List.getElem?_cons_zero, R.bind_ok, R.of_some, g0, ne_nilL, Option.map, tru_bl, tst, Out.of_ok, List.isEmpty]
      rfl
    | cons n ns =>
      have hl : 0 < (cs.length : Int) := by rw [hc]; simp only [List.length_cons]; omega
      have hn : ∃ j, natIx cs.length (at_ % (cs.length : Int)) = some j := by
        have m1 := Int.emod_nonneg at_ (show (cs.length : Int) ≠ 0 by omega)
        have m2 := Int.emod_lt_of_pos at_ hl
        exact ⟨(at_ % (cs.length : Int)).toNat, by unfold natIx; rw [if_pos m1, if_pos (by omega)]⟩
      obtain ⟨j, hj⟩ := hn
      obtain ⟨c, hx⟩ := ix_l (h := h.set p (penO cs (at_ + 1) st)) hj
      have ne : cs.isEmpty = false := by rw [hc]; rfl
      rw [← hc]
      refine ⟨c, ?_⟩
      simp only [evSs, evS, evE, evEs, evT, List.getElem?_cons_zero, List.getElem?_cons_succ, R.bind_ok, R.of_some, g0, ne_nilL, ne, Option.map, tru_bl, tst, Out.of_ok, Bool.not_false, if_true, len_l, int_i, List.length_map, mod_ii hl, hx, List.set_cons_succ, List.set_cons_zero]
  obtain ⟨c, hc⟩ := cell
  obtain ⟨f, ρ, h1, h2⟩ := fresh_tail (w := w) (cl := callN T w k) hp1 (c := c) ha
  refine ⟨f, h1, ?_⟩
  rw [show ("_law_fresh" : Str) = (⟨"_law_fresh", 1, 7, freshB⟩ : Fn).name from rfl, call_as pt.fresh rfl]
  show endOf (evSs (callN T w k) w freshB [some (.ref p), none, none, none, none, none, none] h) = _
  have run : evSs (callN T w k) w freshB [some (.ref p), none, none, none, none, none, none] h = .rt (.int f) ρ (h.set p (penO cs (at_ + 1) st)) := by
    rw [← h2, ← main c]
    have s1 : evS (callN T w k) w (.asg (.nm 1) (.ix (.var 0) (.c (.int 1)))) [some (.ref p), none, none, none, none, none, none] h = .nx [some (.ref p), some (.int at_), none, none, none, none, none] h := by
      simp only [evS, evE, evT, List.getElem?_cons_zero, R.bind_ok, R.of_some, Out.of_ok, e1, List.set_cons_succ, List.set_cons_zero]
    have s2 : evS (callN T w k) w (.asg (.sub (.var 0) (.c (.int 1))) (.bin .add (.var 1) (.c (.int 1)))) [some (.ref p), some (.int at_), none, none, none, none, none] h =
        .nx [some (.ref p), some (.int at_), none, none, none, none, none] (h.set p (penO cs (at_ + 1) st)) := by
      simp only [evS, evE, evT, List.getElem?_cons_zero, List.getElem?_cons_succ, R.bind_ok, R.of_some, Out.of_ok, add_ii, R.nox, sp]
    have s3 : evS (callN T w k) w (.asg (.nm 2) (.c (.int 0))) [some (.ref p), some (.int at_), none, none, none, none, none] (h.set p (penO cs (at_ + 1) st)) =
        .nx [some (.ref p), some (.int at_), some (.int 0), none, none, none, none] (h.set p (penO cs (at_ + 1) st)) := rfl
    rw [freshB, seq_nx s1, seq_nx s2, seq_nx s3, seq_nx hc]
  rw [run]; rfl
theorem draw_ok (pt : PenT T) (hp : h[p]? = some (penO cs at_ st)) (ha : 0 ≤ at_) (hs : 0 ≤ st) {n : Int} (hn : 0 < n) (hn2 : n < 1073741824) :
    ∃ d at' st', 0 ≤ d ∧ d < n ∧ 0 ≤ at' ∧ 0 ≤ st' ∧ callN T w (k + 2) "_law_draw" [.ref p, .int n] h = .ok (.int d) (h.set p (penO cs at' st')) := by
  obtain ⟨e0, e1, e2⟩ := ix_pen hp
  have first : ∃ at1 st1, 0 ≤ at1 ∧ 0 ≤ st1 ∧ evS (callN T w (k + 1)) w (.ite (.cmp .lt (.ix (.var 0) (.c (.int 2))) (.var 1)) (.cons (.asg (.sub (.var 0) (.c (.int 2))) (.call .ef "_law_fresh" (.cons (.var 0) .nil))) .nil) .nil)
      [some (.ref p), some (.int n), none] h = .nx [some (.ref p), some (.int n), none] (h.set p (penO cs at1 st1)) := by
    by_cases hb : st < n
    · obtain ⟨f, f1, f2⟩ := fresh_ok (w := w) (k := k) pt hp ha
      have hp1 : (h.set p (penO cs (at_ + 1) st))[p]? = some (penO cs (at_ + 1) st) := List.getElem?_set_self (lt_get hp)
      have sp : setOb (h.set p (penO cs (at_ + 1) st)) (.ref p) (.int 2) (.int f) = some (h.set p (penO cs (at_ + 1) f)) := by
        rw [set_pen hp1]
        show some ((h.set p (penO cs (at_ + 1) st)).set p (penO cs (at_ + 1) f)) = _
        rw [List.set_set]
      refine ⟨at_ + 1, f, by omega, f1, ?_⟩
      simp only [evSs, evS, evE, evEs, evT, List.getElem?_cons_zero, List.getElem?_cons_succ, R.bind_ok, R.of_some, Out.of_ok, e2, lt_ii, hb, decide_true, Option.map, tru_bl, tst, if_true, callD, f2, R.nox, sp]
    · refine ⟨at_, st, ha, hs, ?_⟩
      have same : h.set p (penO cs at_ st) = h := by
        apply List.ext_getElem?
        intro i
        by_cases hi : p = i
        · subst hi; rw [List.getElem?_set_self (lt_get hp), hp]
        · rw [List.getElem?_set_ne hi]
      rw [same]
      simp only [evSs, evS, evE, List.getElem?_cons_zero, List.getElem?_cons_succ, R.bind_ok, R.of_some, Out.of_ok, e2, lt_ii, hb, decide_false, Option.map, tru_bl, tst, Bool.false_eq_true, if_false]
  obtain ⟨at1, st1, a1, s1, q⟩ := first
  have hp2 : (h.set p (penO cs at1 st1))[p]? = some (penO cs at1 st1) := List.getElem?_set_self (lt_get hp)
  obtain ⟨g0, g1, g2⟩ := ix_pen hp2
  have sp : setOb (h.set p (penO cs at1 st1)) (.ref p) (.int 2) (.int (st1 / n)) = some (h.set p (penO cs at1 (st1 / n))) := by
    rw [set_pen hp2]
    show some ((h.set p (penO cs at1 st1)).set p (penO cs at1 (st1 / n))) = _
    rw [List.set_set]
  refine ⟨st1 % n, at1, st1 / n, Int.emod_nonneg _ (by omega), Int.emod_lt_of_pos _ hn, a1, Int.ediv_nonneg s1 (by omega), ?_⟩
  rw [show ("_law_draw" : Str) = (⟨"_law_draw", 2, 3, drawB⟩ : Fn).name from rfl, call_as pt.draw rfl]
  show endOf (evSs (callN T w (k + 1)) w drawB [some (.ref p), some (.int n), none] h) = _
  have run : evSs (callN T w (k + 1)) w drawB [some (.ref p), some (.int n), none] h = .rt (.int (st1 % n)) [some (.ref p), some (.int n), some (.int (st1 % n))] (h.set p (penO cs at1 (st1 / n))) := by
    rw [drawB, seq_nx q]
    simp only [evSs, evS, evE, evT, List.getElem?_cons_zero, List.getElem?_cons_succ, R.bind_ok, R.of_some, Out.of_ok, g2, b1D, mod_ii hn, fdiv_ii hn hn2, List.set_cons_succ, List.set_cons_zero, R.nox, sp]
  rw [run]; rfl

theorem pen_ok (pt : PenT T) (ns : List Int) : callN T w (k + 1) "_law_pen" [.slst (ns.map D.int)] h = .ok (.ref h.length) (h ++ [penO (ns.take 63) 0 0]) := by
  have e : slcD h (.slst (ns.map D.int)) .hole (.int 63) = some (.lst ((ns.take 63).map D.int)) := by
    show ((clip (ns.map D.int).length 0 .hole).bind fun l => (clip (ns.map D.int).length (ns.map D.int).length (.int 63)).map fun u => D.lst (((ns.map D.int).take u).drop l)) = _
    show some (D.lst (((ns.map D.int).take (min 63 (ns.map D.int).length)).drop 0)) = _
    have m : (ns.map D.int).take (min 63 (ns.map D.int).length) = (ns.take 63).map D.int := by
      rw [List.map_take]
      by_cases hl : (ns.map D.int).length ≤ 63
      · rw [Nat.min_eq_right hl, List.take_length, List.take_of_length_le hl]
      · rw [Nat.min_eq_left (by omega)]
    rw [m]; rfl
  rw [show ("_law_pen" : Str) = (⟨"_law_pen", 1, 1, penB⟩ : Fn).name from rfl, call_as pt.pen rfl]
  show endOf (evSs (callN T w k) w penB [some (.slst (ns.map D.int))] h) = _
  have run : evSs (callN T w k) w penB [some (.slst (ns.map D.int))] h = .rt (.ref h.length) [some (.slst (ns.map D.int))] (h ++ [penO (ns.take 63) 0 0]) := by
    have p63 : partB .hole = true := rfl
    have bl : ∀ xs, b1D h .list (.lst xs) = .ok (.lst xs) h := fun _ => rfl
    simp only [penB, evSs, evS, evE, evEs, List.getElem?_cons_zero, R.bind_ok, R.of_some, Out.of_ok, p63, if_true, e, bl]
    rfl
  rw [run]; rfl
end Rx

/-! RyB: tools for reasoning about the evaluator. -/
namespace Rx
open PySem L2
variable {T : List Fn} {w k : Nat} {h : Hq} {cl : Cl}



/-! ### freezing what is frozen -/
mutual
/-- tuples of scalars, to a depth: freezing leaves it -/
def fzN : Nat → D → Bool
  | _, .non => true
  | _, .bl _ => true
  | _, .int _ => true
  | _, .str _ => true
  | 0, _ => false
  | n + 1, .tup xs => fzNs n xs
  | n + 1, .lst xs => fzNs n xs
  | _, _ => false
def fzNs : Nat → List D → Bool
  | _, [] => true
  | n, x :: xs => fzN n x && fzNs n xs
end
mutual
theorem frz_id (m : Nat) : ∀ (n : Nat) (d : D), fzN n d = true → frz m h n d = some d
  | n, .non, _ => by unfold frz; rfl
  | n, .bl _, _ => by unfold frz; rfl
  | n, .int _, _ => by unfold frz; rfl
  | n, .str _, _ => by unfold frz; rfl
  | 0, .tup xs, p => by simp [fzN] at p
  | 0, .lst xs, p => by simp [fzN] at p
  | n + 1, .tup xs, p => by
    show (xs.mapM (frz m h n)).map D.tup = _
    rw [frzs_id m n xs (by simpa [fzN] using p)]; rfl
  | n + 1, .lst xs, p => by
    show (xs.mapM (frz m h n)).map D.lst = _
    rw [frzs_id m n xs (by simpa [fzN] using p)]; rfl
  | 0, .dct _ _, p => by simp [fzN] at p
  | _ + 1, .dct _ _, p => by simp [fzN] at p
  | 0, .ref _, p => by simp [fzN] at p
  | _ + 1, .ref _, p => by simp [fzN] at p
  | 0, .clo _ _, p => by simp [fzN] at p
  | _ + 1, .clo _ _, p => by simp [fzN] at p
  | 0, .slst _, p => by simp [fzN] at p
  | _ + 1, .slst _, p => by simp [fzN] at p
  | 0, .hole, p => by simp [fzN] at p
  | _ + 1, .hole, p => by simp [fzN] at p
theorem frzs_id (m : Nat) : ∀ (n : Nat) (ds : List D), fzNs n ds = true → ds.mapM (frz m h n) = some ds
  | _, [], _ => rfl
  | n, d :: ds, p => by
    have p : fzN n d = true ∧ fzNs n ds = true := by simpa [fzNs] using p
    rw [List.mapM_cons, frz_id m n d p.1, frzs_id m n ds p.2]; rfl
end
mutual
theorem fzN_fz : ∀ (n : Nat) (d : D), fzN n d = true → fz d = true
  | _, .non, _ => rfl
  | _, .bl _, _ => rfl
  | _, .int _, _ => rfl
  | _, .str _, _ => rfl
  | 0, .tup _, p => by simp [fzN] at p
  | 0, .lst _, p => by simp [fzN] at p
  | n + 1, .tup xs, p => by simpa [fz] using fzNs_fz n xs (by simpa [fzN] using p)
  | n + 1, .lst xs, p => by simpa [fz] using fzNs_fz n xs (by simpa [fzN] using p)
  | 0, .dct _ _, p => by simp [fzN] at p
  | _ + 1, .dct _ _, p => by simp [fzN] at p
  | 0, .ref _, p => by simp [fzN] at p
  | _ + 1, .ref _, p => by simp [fzN] at p
  | 0, .clo _ _, p => by simp [fzN] at p
  | _ + 1, .clo _ _, p => by simp [fzN] at p
  | 0, .slst _, p => by simp [fzN] at p
  | _ + 1, .slst _, p => by simp [fzN] at p
  | 0, .hole, p => by simp [fzN] at p
  | _ + 1, .hole, p => by simp [fzN] at p
theorem fzNs_fz : ∀ (n : Nat) (ds : List D), fzNs n ds = true → fzs ds = true
  | _, [], _ => rfl
  | n, d :: ds, p => by
    have p : fzN n d = true ∧ fzNs n ds = true := by simpa [fzNs] using p
    simp [fzs, fzN_fz n d p.1, fzNs_fz n ds p.2]
end
theorem fzNs_all (n : Nat) : ∀ ds : List D, fzNs n ds = ds.all (fzN n)
  | [] => rfl
  | d :: ds => by rw [fzNs, List.all_cons, fzNs_all n ds]
/-- a pure call -/
theorem pu_of {f : Str} {ds : List D} {d v : D} {h' : Hq} (e : callN T w k f ds [] = .ok d h') (fr : frz 0 h' 60 d = some v) (a : fzNs 60 ds = true) : callPu (callN T w k) f ds h = .ok v h := by
  unfold callPu
  rw [frzs_id 0 60 ds a]
  dsimp only
  rw [e]
  dsimp only
  rw [fr]
  dsimp only
  rw [fzNs_fz 60 ds a]; rfl

/-! ### loops -/
/-- a for over what nobody changes: an invariant of the turns -/
theorem forL_inv {asg : D → Ev → Hq → R Ev} {b : Ev → Hq → Out} (P : Nat → Ev → Hq → Prop) : ∀ (ds : List D) (i : Nat) (ρ : Ev) (h : Hq), P i ρ h →
    (∀ j d ρ h, ds[j]? = some d → P (i + j) ρ h → ∃ ρ1 h1 ρ2 h2, asg d ρ h = .ok ρ1 h1 ∧ (b ρ1 h1 = .nx ρ2 h2 ∨ b ρ1 h1 = .ct ρ2 h2) ∧ P (i + j + 1) ρ2 h2) →
    ∃ ρ' h', forL none asg b ds ρ h = .nx ρ' h' ∧ P (i + ds.length) ρ' h'
  | [], i, ρ, h, p, _ => ⟨ρ, h, rfl, p⟩
  | d :: ds, i, ρ, h, p, st => by
    obtain ⟨ρ1, h1, ρ2, h2, e1, e2, p2⟩ := st 0 d ρ h rfl p
    obtain ⟨ρ', h', e3, p3⟩ := forL_inv P ds (i + 1) ρ2 h2 p2 fun j d ρ h hj q => by
      obtain ⟨ρ1, h1, ρ2, h2, z1, z2, z3⟩ := st (j + 1) d ρ h (by simpa using hj) (by rw [show i + (j + 1) = i + 1 + j by omega]; exact q)
      exact ⟨ρ1, h1, ρ2, h2, z1, z2, by rw [show i + 1 + j + 1 = i + (j + 1) + 1 by omega]; exact z3⟩
    refine ⟨ρ', h', ?_, by rw [List.length_cons, show i + (ds.length + 1) = i + 1 + ds.length by omega]; exact p3⟩
    unfold forL
    rw [if_pos (show unch none h = true from rfl), e1, Out.of_ok]
    rcases e2 with e2 | e2 <;> (rw [e2]; exact e3)
/-- a for whose turns do what a step of a fold does -/
theorem forL_fold {α S : Type} {asg : D → Ev → Hq → R Ev} {b : Ev → Hq → Out} (f : α → D) (en : S → Ev) (hp : S → Hq) (stp : S → α → S) (ok : S → Prop) : ∀ (xs : List α) (s : S), ok s →
    (∀ x ∈ xs, ∀ s, ok s → ok (stp s x) ∧ ∃ ρ1 h1, asg (f x) (en s) (hp s) = .ok ρ1 h1 ∧ b ρ1 h1 = .nx (en (stp s x)) (hp (stp s x))) →
    forL none asg b (xs.map f) (en s) (hp s) = .nx (en (xs.foldl stp s)) (hp (xs.foldl stp s)) ∧ ok (xs.foldl stp s)
  | [], s, q, _ => ⟨rfl, q⟩
  | x :: xs, s, q, st => by
    obtain ⟨q1, ρ1, h1, e1, e2⟩ := st x (List.mem_cons_self ..) s q
    obtain ⟨z1, z2⟩ := forL_fold f en hp stp ok xs (stp s x) q1 fun y m => st y (List.mem_cons_of_mem _ m)
    refine ⟨?_, z2⟩
    rw [List.map_cons]
    unfold forL
    rw [if_pos (show unch none (hp s) = true from rfl), e1, Out.of_ok, e2]
    exact z1
/-- a list comprehension that changes nothing -/
theorem lcL_map {α : Type} {asg : D → Hq → R Ev} {cond : Ev → Hq → R Bool} {x : Ev → Hq → R D} (f : α → D) (p : α → Bool) (g : α → D) (h : Hq) : ∀ (xs : List α),
    (∀ a ∈ xs, ∃ ρ, asg (f a) h = .ok ρ h ∧ cond ρ h = .ok (p a) h ∧ (p a = true → x ρ h = .ok (g a) h)) →
    lcL none asg cond x (xs.map f) h = .ok ((xs.filter p).map g) h
  | [], _ => rfl
  | a :: xs, st => by
    obtain ⟨ρ, e1, e2, e3⟩ := st a (List.mem_cons_self ..)
    have ih := lcL_map f p g h xs fun y m => st y (List.mem_cons_of_mem _ m)
    rw [List.map_cons]
    unfold lcL
    rw [if_pos (show unch none h = true from rfl), e1, R.bind_ok, e2, R.bind_ok]
    cases hp : p a with
    | true =>
      rw [if_pos rfl, e3 hp, R.bind_ok, ih, R.bind_ok, List.filter_cons, if_pos hp]; rfl
    | false =>
      rw [if_neg (by decide), ih, List.filter_cons, if_neg (by rw [hp]; decide)]
/-- .. with an invariant of the heap (numbers drawn) -/
theorem lcL_inv {asg : D → Hq → R Ev} {cond : Ev → Hq → R Bool} {x : Ev → Hq → R D} (P : Hq → Prop) (V : D → D → Prop) : ∀ (ds : List D) (h : Hq), P h →
    (∀ d ∈ ds, ∀ h, P h → ∃ ρ h1 b h2, asg d h = .ok ρ h1 ∧ cond ρ h1 = .ok b h2 ∧ (b = false → P h2) ∧ (b = true → ∃ v h3, x ρ h2 = .ok v h3 ∧ V d v ∧ P h3)) →
    ∃ ks vs h', lcL none asg cond x ds h = .ok vs h' ∧ P h' ∧ List.Sublist ks ds ∧ ks.length = vs.length ∧ ∀ (i : Nat) d v, ks[i]? = some d → vs[i]? = some v → V d v
  | [], h, p, _ => ⟨[], [], h, rfl, p, List.Sublist.refl _, rfl, fun i d v e => by simp at e⟩
  | d :: ds, h, p, st => by
    obtain ⟨ρ, h1, b, h2, e1, e2, q1, q2⟩ := st d (List.mem_cons_self ..) h p
    cases b with
    | false =>
      obtain ⟨ks, vs, h', e3, p3, s3, l3, v3⟩ := lcL_inv P V ds h2 (q1 rfl) fun y m => st y (List.mem_cons_of_mem _ m)
      refine ⟨ks, vs, h', ?_, p3, s3.cons _, l3, v3⟩
      unfold lcL
      rw [if_pos (show unch none h = true from rfl), e1, R.bind_ok, e2, R.bind_ok, if_neg (by decide)]
      exact e3
    | true =>
      obtain ⟨v, h3, e4, hv, p4⟩ := q2 rfl
      obtain ⟨ks, vs, h', e3, p3, s3, l3, v3⟩ := lcL_inv P V ds h3 p4 fun y m => st y (List.mem_cons_of_mem _ m)
      refine ⟨d :: ks, v :: vs, h', ?_, p3, s3.cons₂ _, by simp [l3], fun i d' v' a1 a2 => ?_⟩
      · unfold lcL
        rw [if_pos (show unch none h = true from rfl), e1, R.bind_ok, e2, R.bind_ok, if_pos rfl, e4, R.bind_ok, e3, R.bind_ok]
      · cases i with
        | zero => simp at a1 a2; subst a1 a2; exact hv
        | succ i => exact v3 i d' v' (by simpa using a1) (by simpa using a2)
/-- .. all of it taken -/
theorem lcL_all {asg : D → Hq → R Ev} {cond : Ev → Hq → R Bool} {x : Ev → Hq → R D} (P : Hq → Prop) (V : D → D → Prop) : ∀ (ds : List D) (h : Hq), P h →
    (∀ d ∈ ds, ∀ h, P h → ∃ ρ h1 h2 v h3, asg d h = .ok ρ h1 ∧ cond ρ h1 = .ok true h2 ∧ x ρ h2 = .ok v h3 ∧ V d v ∧ P h3) →
    ∃ vs h', lcL none asg cond x ds h = .ok vs h' ∧ P h' ∧ vs.length = ds.length ∧ ∀ (i : Nat) d v, ds[i]? = some d → vs[i]? = some v → V d v
  | [], h, p, _ => ⟨[], h, rfl, p, rfl, fun i d v e => by simp at e⟩
  | d :: ds, h, p, st => by
    obtain ⟨ρ, h1, h2, v, h3, e1, e2, e4, hv, p4⟩ := st d (List.mem_cons_self ..) h p
    obtain ⟨vs, h', e3, p3, l3, v3⟩ := lcL_all P V ds h3 p4 fun y m => st y (List.mem_cons_of_mem _ m)
    refine ⟨v :: vs, h', ?_, p3, by simp [l3], fun i d' v' a1 a2 => ?_⟩
    · unfold lcL
      rw [if_pos (show unch none h = true from rfl), e1, R.bind_ok, e2, R.bind_ok, if_pos rfl, e4, R.bind_ok, e3, R.bind_ok]
    · cases i with
      | zero => simp at a1 a2; subst a1 a2; exact hv
      | succ i => exact v3 i d' v' (by simpa using a1) (by simpa using a2)
/-- a dict comprehension that changes nothing: the entries put one after another -/
theorem dcL_map {α : Type} {asg : D → Hq → R Ev} {cond : Ev → Hq → R Bool} {kx vx : Ev → Hq → R D} (f : α → D) (p : α → Bool) (g v : α → D) (h : Hq) (fit : ∀ a b, keyFit [] (g a) = true ∧ keyFit [g b] (g a) = true) : ∀ (xs : List α) (ks vs : List D),
    (∀ q ∈ ks, ∃ a, q = g a) →
    (∀ a ∈ xs, ∃ ρ, asg (f a) h = .ok ρ h ∧ cond ρ h = .ok (p a) h ∧ (p a = true → kx ρ h = .ok (g a) h ∧ vx ρ h = .ok (v a) h)) →
    dcL none asg cond kx vx (xs.map f) ks vs h = .ok ((xs.filter p).foldl (fun q a => dput q.1 q.2 (g a) (v a)) (ks, vs)) h
  | [], ks, vs, _, _ => rfl
  | a :: xs, ks, vs, hk, st => by
    obtain ⟨ρ, e1, e2, e3⟩ := st a (List.mem_cons_self ..)
    rw [List.map_cons]
    unfold dcL
    rw [if_pos (show unch none h = true from rfl), e1, R.bind_ok, e2, R.bind_ok]
    cases hp : p a with
    | true =>
      obtain ⟨e4, e5⟩ := e3 hp
      have ft : keyFit ks (g a) = true := by
        cases ks with
        | nil => exact (fit a a).1
        | cons q ks =>
          have all_ : ∀ x ∈ q :: ks, keyFit [x] (g a) = true := fun x m => by
            obtain ⟨b, rfl⟩ := hk x m
            exact (fit a b).2
          unfold keyFit at all_ ⊢
          have h0 := all_ q (List.mem_cons_self ..)
          simp only [List.all_cons, List.all_nil, Bool.and_true, Bool.or_eq_true, Bool.and_eq_true] at h0 all_ ⊢
          rcases h0 with h0 | h0
          · refine .inl ⟨h0.1, h0.2, List.all_eq_true.mpr fun x m => ?_⟩
            rcases all_ x (List.mem_cons_of_mem _ m) with z | z
            · exact z.2
            · have := tup_not_flk z.1.1
              rw [h0.1] at this; cases this
          · refine .inr ⟨h0.1, h0.2, List.all_eq_true.mpr fun x m => ?_⟩
            rcases all_ x (List.mem_cons_of_mem _ m) with z | z
            · have := tup_not_flk h0.1.1
              rw [z.1] at this; cases this
            · exact z.2
      rw [if_pos rfl, e4, R.bind_ok, e5, R.bind_ok, if_pos ft, List.filter_cons, if_pos hp]
      refine dcL_map f p g v h fit xs _ _ (fun q m => ?_) fun y m => st y (List.mem_cons_of_mem _ m)
      unfold dput at m
      split at m
      · exact hk q m
      · rcases List.mem_append.mp m with m | m
        · exact hk q m
        · rw [List.mem_singleton] at m; exact ⟨a, m⟩
    | false =>
      rw [if_neg (by decide), List.filter_cons, if_neg (by rw [hp]; decide)]
      exact dcL_map f p g v h fit xs ks vs hk fun y m => st y (List.mem_cons_of_mem _ m)
/-- a while by a measure -/
theorem whileL_inv {c : Ev → Hq → R Bool} {b : Ev → Hq → Out} (P : Nat → Ev → Hq → Prop) (Z : Ev → Hq → Prop)
    (st : ∀ m ρ h, P m ρ h → (∃ h1, c ρ h = .ok false h1 ∧ Z ρ h1) ∨ ∃ h1 ρ2 h2 m', c ρ h = .ok true h1 ∧ (b ρ h1 = .nx ρ2 h2 ∨ b ρ h1 = .ct ρ2 h2) ∧ m' < m ∧ P m' ρ2 h2) :
    ∀ (n m : Nat) (ρ : Ev) (h : Hq), P m ρ h → m < n → ∃ ρ' h', whileL c b n ρ h = .nx ρ' h' ∧ Z ρ' h'
  | 0, m, ρ, h, _, l => absurd l (Nat.not_lt_zero _)
  | n + 1, m, ρ, h, p, l => by
    unfold whileL
    rcases st m ρ h p with ⟨h1, e, z⟩ | ⟨h1, ρ2, h2, m', e1, e2, lt, p2⟩
    · rw [e, Out.of_ok]
      exact ⟨ρ, h1, rfl, z⟩
    · rw [e1, Out.of_ok, if_pos rfl]
      obtain ⟨ρ', h', e3, z⟩ := whileL_inv P Z st n m' ρ2 h2 p2 (by omega)
      rcases e2 with e2 | e2 <;> (rw [e2]; exact ⟨ρ', h', e3, z⟩)
/-! ### comprehensions, walks -/
theorem ev_lc {it : It} {t : Rx.T} {cond x : E} {ρ : Ev} {h h1 h2 : Hq} {s : Src} {xs vs : List D} (e : evIt cl it ρ h = .ok (s, xs) h1) (f : fits xs.length = true)
    (l : lcL s (fun d h => evT cl t d (wipeE ρ t.slots) h) (fun ρ h => tst (evE cl cond ρ h)) (fun ρ h => evE cl x ρ h) xs h1 = .ok vs h2) : evE cl (.lc it t cond x) ρ h = .ok (.lst vs) h2 := by
  rw [evE, e, R.bind_ok]
  dsimp only
  rw [if_pos f, l]; rfl
theorem ev_dc {it : It} {t : Rx.T} {cond kx vx : E} {ρ : Ev} {h h1 h2 : Hq} {s : Src} {xs : List D} {kv : List D × List D} (e : evIt cl it ρ h = .ok (s, xs) h1) (f : fits xs.length = true)
    (l : dcL s (fun d h => evT cl t d (wipeE ρ t.slots) h) (fun ρ h => tst (evE cl cond ρ h)) (fun ρ h => evE cl kx ρ h) (fun ρ h => evE cl vx ρ h) xs [] [] h1 = .ok kv h2) : evE cl (.dc it t cond kx vx) ρ h = .ok (.dct kv.1 kv.2) h2 := by
  rw [evE, e, R.bind_ok]
  dsimp only
  rw [if_pos f, l]; rfl
theorem ev_for {it : It} {t : Rx.T} {b : Ss} {ρ : Ev} {h h1 : Hq} {s : Src} {xs : List D} {o : Out} (e : evIt cl it ρ h = .ok (s, xs) h1)
    (l : forL s (fun d ρ h => evT cl t d ρ h) (fun ρ h => evSs cl w b ρ h) xs ρ h1 = o) : evS cl w (.for_ it t b) ρ h = o := by
  rw [evS, e, Out.of_ok]; exact l
theorem ev_whl {c : E} {b : Ss} {ρ : Ev} {h : Hq} {o : Out} (l : whileL (fun ρ h => tst (evE cl c ρ h)) (fun ρ h => evSs cl w b ρ h) w ρ h = o) : evS cl w (.whl c b) ρ h = o := l
theorem ev_asg {i : Nat} {e : E} {ρ : Ev} {h h1 : Hq} {d : D} (q : evE cl e ρ h = .ok d h1) : evS cl w (.asg (.nm i) e) ρ h = .nx (ρ.set i (some d)) h1 := by rw [evS, q]; rfl
theorem ev_ex {e : E} {ρ : Ev} {h h1 : Hq} {d : D} (q : evE cl e ρ h = .ok d h1) : evS cl w (.ex e) ρ h = .nx ρ h1 := by rw [evS, q]; rfl
theorem ev_ret {e : E} {ρ : Ev} {h h1 : Hq} {d : D} (q : evE cl e ρ h = .ok d h1) : evS cl w (.ret e) ρ h = .rt d ρ h1 := by rw [evS, q]; rfl
theorem ev_if {c : E} {a b : Ss} {ρ : Ev} {h h1 : Hq} {t : Bool} (q : tst (evE cl c ρ h) = .ok t h1) : evS cl w (.ite c a b) ρ h = if t then evSs cl w a ρ h1 else evSs cl w b ρ h1 := by rw [evS, q]; rfl
theorem seq_rt {s : S} {ss : Ss} {ρ ρ1 : Ev} {h h1 : Hq} {d : D} (e : evS cl w s ρ h = .rt d ρ1 h1) : evSs cl w (.cons s ss) ρ h = .rt d ρ1 h1 := by rw [evSs, e]
end Rx

/-! RyC: houses, contents; what the question answers. -/
namespace Rx
open PySem L2
variable {T : List Fn} {w k : Nat} {h : Hq} {cl : Cl}

inductive Stp where
  | set (c : Nat) (v : Int) | cpy (c d : Nat) | swp (c d : Nat) | add (c : Nat) (n : Int) | whn (c : Nat) (v : Int) (s : Stp)
inductive Nd where
  | look (c : Nat) (ts : List Nat) | ans (a : Int)
structure Hs where
  sz : List Int
  nd : List Nd
  dd : List (List Stp)
def nat (n : Nat) : D := .int n
def dStp : Stp → D
  | .set c v => .tup [.str "set", nat c, .int v]
  | .cpy c d => .tup [.str "copy", nat c, nat d]
  | .swp c d => .tup [.str "swap", nat c, nat d]
  | .add c n => .tup [.str "add", nat c, .int n]
  | .whn c v s => .tup [.str "when", nat c, .int v, dStp s]
def dNd : Nd → D
  | .look c ts => .tup [.str "look", nat c, .tup (ts.map nat)]
  | .ans a => .tup [.str "answer", .int a]
def dDd (l : List Stp) : D := .tup (l.map dStp)
def dHs (H : Hs) : D := .tup [tD H.sz, .tup (H.nd.map dNd), .tup (H.dd.map dDd)]
def StpOk (sz : List Int) : Stp → Prop
  | .set c v => ∃ s, sz[c]? = some s ∧ 0 ≤ v ∧ v < s
  | .cpy c d => ∃ s, sz[c]? = some s ∧ sz[d]? = some s ∧ c ≠ d
  | .swp c d => ∃ s, sz[c]? = some s ∧ sz[d]? = some s ∧ c ≠ d
  | .add c n => ∃ s, sz[c]? = some s ∧ 0 ≤ n ∧ n < s
  | .whn c v s => (∃ z, sz[c]? = some z ∧ 0 ≤ v ∧ v < z) ∧ StpOk sz s
def Stp.dep : Stp → Nat
  | .whn _ _ s => s.dep + 1
  | _ => 0
def NdOk (sz : List Int) (i many : Nat) : Nd → Prop
  | .look c ts => ∃ s, sz[c]? = some s ∧ (ts.length : Int) = s ∧ ∀ t ∈ ts, i < t ∧ t < many
  | .ans a => 0 ≤ a ∧ a ≤ 9
structure HsOk (H : Hs) : Prop where
  sz0 : 1 ≤ H.sz.length
  sz1 : H.sz.length ≤ 3
  sz2 : ∀ s ∈ H.sz, 2 ≤ s ∧ s ≤ 4
  sz3 : H.sz.foldl (· * ·) 1 ≤ 8
  nd0 : 1 ≤ H.nd.length
  nd1 : H.nd.length ≤ 12
  nd2 : ∀ (i : Nat) n, H.nd[i]? = some n → NdOk H.sz i H.nd.length n
  dd1 : H.dd.length ≤ 6
  dd2 : ∀ d ∈ H.dd, d.length ≤ 6 ∧ ∀ s ∈ d, StpOk H.sz s ∧ s.dep ≤ 3
/-- a content -/
def Cok (sz c : List Int) : Prop := c.length = sz.length ∧ ∀ (i : Nat) x s, c[i]? = some x → sz[i]? = some s → 0 ≤ x ∧ x < s

/-! ### plain parts -/
theorem nat_ix {n : Nat} {i : Nat} (h : i < n) : natIx n (i : Int) = some i := by
  unfold natIx
  rw [if_pos (Int.natCast_nonneg i), if_pos (by simpa using h)]; rfl
theorem ix_tup {xs : List D} {i : Nat} {d : D} (e : xs[i]? = some d) : ixD h (.tup xs) (.int (i : Int)) = some d := by
  show ((natIx xs.length (i : Int)).bind fun n => xs[n]?) = _
  rw [nat_ix (List.getElem?_eq_some_iff.mp e).1]; exact e
theorem ix_lst {xs : List D} {i : Nat} {d : D} (e : xs[i]? = some d) : ixD h (.lst xs) (.int (i : Int)) = some d := by
  show ((natIx xs.length (i : Int)).bind fun n => xs[n]?) = _
  rw [nat_ix (List.getElem?_eq_some_iff.mp e).1]; exact e
theorem ix_tupI {xs : List D} {i : Int} {d : D} (h0 : 0 ≤ i) (e : xs[i.toNat]? = some d) : ixD h (.tup xs) (.int i) = some d := by
  have := ix_tup (h := h) e
  rw [Int.toNat_of_nonneg h0] at this; exact this
theorem ix_lstI {xs : List D} {i : Int} {d : D} (h0 : 0 ≤ i) (e : xs[i.toNat]? = some d) : ixD h (.lst xs) (.int i) = some d := by
  have := ix_lst (h := h) e
  rw [Int.toNat_of_nonneg h0] at this; exact this
theorem ixT0 (xs : List D) (a : D) : ixD h (.tup (a :: xs)) (.int 0) = some a := ix_tup (i := 0) rfl
theorem ixT1 (xs : List D) (a b : D) : ixD h (.tup (a :: b :: xs)) (.int 1) = some b := ix_tup (i := 1) rfl
theorem ixT2 (xs : List D) (a b c : D) : ixD h (.tup (a :: b :: c :: xs)) (.int 2) = some c := ix_tup (i := 2) rfl
theorem ixT3 (xs : List D) (a b c d : D) : ixD h (.tup (a :: b :: c :: d :: xs)) (.int 3) = some d := ix_tup (i := 3) rfl
theorem ixM {α : Type} {xs : List α} {f : α → D} {i : Nat} {a : α} (e : xs[i]? = some a) : (xs.map f)[i]? = some (f a) := by rw [List.getElem?_map, e]; rfl
theorem eq_ss (a b : Str) : cmpD h .eq (.str a) (.str b) = some (decide (a = b)) := rfl
theorem ne_ss (a b : Str) : cmpD h .ne (.str a) (.str b) = some (!decide (a = b)) := rfl
theorem eqv_ii (a b : Int) : eqv (.int a) (.int b) = decide (a = b) := by
  unfold eqv
  by_cases e : a = b
  · subst e; simp [toP, PyData.eqv]
  · simp [toP, PyData.eqv, e]
theorem eq_ii (a b : Int) : cmpD h .eq (.int a) (.int b) = some (decide (a = b)) := by
  show (if plain 60 (.int a) && plain 60 (.int b) then some (eqv (.int a) (.int b)) else none) = _
  rw [eqv_ii]; rfl
theorem ne_ii (a b : Int) : cmpD h .ne (.int a) (.int b) = some (!decide (a = b)) := by
  show (eqD h (.int a) (.int b)).map (!·) = _
  have := eq_ii (h := h) a b
  rw [show cmpD h .eq (.int a) (.int b) = eqD h (.int a) (.int b) from rfl] at this
  rw [this]; rfl
theorem gt_ii (a b : Int) : cmpD h .gt (.int a) (.int b) = some (decide (b < a)) := rfl
theorem le_ii (a b : Int) : cmpD h .le (.int a) (.int b) = some (decide (a ≤ b)) := rfl
theorem len_t (xs : List D) : b1D h .len (.tup xs) = .ok (.int (xs.length : Nat)) h := rfl
theorem tuple_l (xs : List D) : b1D h .tuple (.lst xs) = .ok (.tup xs) h := rfl
theorem tuple_t (xs : List D) : b1D h .tuple (.tup xs) = .ok (.tup xs) h := rfl
theorem list_t (xs : List D) : b1D h .list (.tup xs) = .ok (.lst xs) h := rfl
theorem view_ref {p : Nat} {xs : List D} (e : h[p]? = some (.lst xs)) : view h (.ref p) = .lst xs := by
  show (match h[p]? with
    | some (.lst xs) => D.lst xs
    | some (.dct ks vs) => D.dct ks vs
    | _ => D.ref p) = _
  rw [e]
theorem tuple_r {p : Nat} {xs : List D} (e : h[p]? = some (.lst xs)) : b1D h .tuple (.ref p) = .ok (.tup xs) h := by
  show R.of ((seqOf h (.ref p)).map D.tup) h = _
  unfold seqOf
  rw [view_ref e]; rfl
theorem len_r {p : Nat} {xs : List D} (e : h[p]? = some (.lst xs)) : b1D h .len (.ref p) = .ok (.int (xs.length : Nat)) h := by
  show R.of ((lenD h (.ref p)).map fun n : Nat => D.int (n : Int)) h = _
  unfold lenD
  rw [view_ref e]; rfl
theorem lstAt_r {p : Nat} {xs : List D} (e : h[p]? = some (.lst xs)) : lstAt h (.ref p) = some xs := by
  show (match h[p]? with
    | some (.lst xs) => some xs
    | _ => none) = _
  rw [e]
theorem append_r {p : Nat} {xs : List D} {x : D} (e : h[p]? = some (.lst xs)) (l : xs.length < sizeLine) : bmOk h .append (.ref p) = true ∧ bmD h .append (.ref p) [x] = .ok .non (h.set p (.lst (xs ++ [x]))) := by
  have z := lstAt_r e
  refine ⟨by show (lstAt h (.ref p)).isSome = true; rw [z]; rfl, ?_⟩
  show (match lstAt h (.ref p) with
    | some xs => if xs.length < sizeLine then R.ok D.non (h.set p (.lst (xs ++ [x]))) else R.er
    | _ => R.er) = _
  rw [z]; dsimp only; rw [if_pos l]
theorem small_size {n : Nat} (h : n ≤ 100000) : n < sizeLine := by rw [sizeLine_eq]; omega
theorem fits_small {n : Nat} (h : n ≤ 100000) : fits n = true := decide_eq_true (Nat.le_of_lt (small_size h))

/-! ### what a call ends in -/
theorem call_rt {f : Fn} {ds : List D} {d : D} {ρ : Ev} {h' : Hq} (e : look T f.name = some f) (hl : ds.length = f.np) (r : evSs (callN T w k) w f.body (ds.map some ++ List.replicate (f.ns - f.np) none) h = .rt d ρ h') :
    callN T w (k + 1) f.name ds h = .ok d h' := by rw [call_as e hl, r]; rfl

/-! ### the question -/
def askedB : Ss :=
  .cons (.par [2, 3] (.cons (.lstM .nil) (.cons (.ix (.ix (.var 0) (.c (.int 1))) (.c (.int 0))) .nil))) <|
  .cons (.whl (.cmp .eq (.ix (.var 3) (.c (.int 0))) (.c (.str "look"))) (.cons (.ex (.bm .append (.var 2) (.cons (.ix (.var 3) (.c (.int 1))) .nil))) (.cons (.asg (.nm 3) (.ix (.ix (.var 0) (.c (.int 1))) (.ix (.ix (.var 3) (.c (.int 2))) (.ix (.var 1) (.ix (.var 3) (.c (.int 1))))))) .nil))) <|
  .cons (.ret (.tup (.cons (.b1 .tuple (.var 2)) (.cons (.ix (.var 3) (.c (.int 1))) .nil)))) <|
  .nil
/-- looks and answer from the node i on -/
def ask (H : Hs) (c : List Int) : Nat → Nat → List Nat × Int
  | 0, _ => ([], 0)
  | f + 1, i => match H.nd[i]? with
    | some (.look cell ts) => match c[cell]? with
      | some x => match ts[x.toNat]? with
        | some t => (cell :: (ask H c f t).1, (ask H c f t).2)
        | none => ([], 0)
      | none => ([], 0)
    | some (.ans a) => ([], a)
    | none => ([], 0)
def asks_ (H : Hs) (c : List Int) : List Nat := (ask H c H.nd.length 0).1
def answ (H : Hs) (c : List Int) : Int := (ask H c H.nd.length 0).2
/-- a look goes on -/
theorem ask_step {H : Hs} {c : List Int} (ok : HsOk H) (co : Cok H.sz c) {i cell : Nat} {ts : List Nat} (e : H.nd[i]? = some (.look cell ts)) :
    ∃ (x : Int) (t : Nat) (n : Nd), c[cell]? = some x ∧ 0 ≤ x ∧ ts[x.toNat]? = some t ∧ H.nd[t]? = some n ∧ i < t ∧ t < H.nd.length := by
  obtain ⟨s, h1, h2, h3⟩ := ok.nd2 i _ e
  have hc : cell < c.length := by rw [co.1]; exact (List.getElem?_eq_some_iff.mp h1).1
  obtain ⟨x0, x1⟩ := co.2 cell c[cell] s (by simp [hc]) h1
  have ht : (c[cell]).toNat < ts.length := by omega
  obtain ⟨l1, l2⟩ := h3 ts[(c[cell]).toNat] (List.getElem_mem ht)
  exact ⟨c[cell], ts[(c[cell]).toNat], H.nd[ts[(c[cell]).toNat]], by simp [hc], x0, by simp [ht], by simp [l2], l1, l2⟩
/-- more fuel than nodes are left changes nothing -/
theorem ask_fuel {H : Hs} {c : List Int} (ok : HsOk H) (co : Cok H.sz c) : ∀ (f g i : Nat), i < H.nd.length → H.nd.length ≤ i + f → H.nd.length ≤ i + g → ask H c f i = ask H c g i
  | 0, _, i, hi, h1, _ => by omega
  | _, 0, i, hi, _, h2 => by omega
  | f + 1, g + 1, i, hi, h1, h2 => by
    unfold ask
    cases e : H.nd[i]? with
    | none => rfl
    | some n =>
      cases n with
      | ans a => rfl
      | look cell ts =>
        obtain ⟨x, t, n, e1, e2, e3, e4, e5, e6⟩ := ask_step ok co e
        simp only [e1, e3]
        rw [ask_fuel ok co f g t e6 (by omega) (by omega)]
/-- which defs walk the question -/
theorem asked_ok {name : Str} (tb : look T name = some ⟨name, 2, 4, askedB⟩) {H : Hs} {c : List Int} (ok : HsOk H) (co : Cok H.sz c) (hw : 13 ≤ w) :
    callN T w (k + 1) name [dHs H, tD c] [] = .ok (.tup [.tup ((asks_ H c).map nat), .int (answ H c)]) [.lst ((asks_ H c).map nat)] := by
  have n0 : ∃ n, H.nd[0]? = some n := ⟨H.nd[0]'(by have := ok.nd0; omega), by simp⟩
  obtain ⟨n0, e0⟩ := n0
  have loop := whileL_inv (c := fun ρ h => tst (evE (callN T w k) (.cmp .eq (.ix (.var 3) (.c (.int 0))) (.c (.str "look"))) ρ h))
    (b := fun ρ h => evSs (callN T w k) w (.cons (.ex (.bm .append (.var 2) (.cons (.ix (.var 3) (.c (.int 1))) .nil))) (.cons (.asg (.nm 3) (.ix (.ix (.var 0) (.c (.int 1))) (.ix (.ix (.var 3) (.c (.int 2))) (.ix (.var 1) (.ix (.var 3) (.c (.int 1))))))) .nil)) ρ h)
    (fun m ρ h => ∃ i n acc, H.nd[i]? = some n ∧ i < H.nd.length ∧ m = H.nd.length - i ∧ acc.length ≤ i ∧ ρ = [some (dHs H), some (tD c), some (.ref 0), some (dNd n)] ∧ h = [.lst (acc.map nat)] ∧
      acc ++ (ask H c (H.nd.length - i) i).1 = asks_ H c ∧ (ask H c (H.nd.length - i) i).2 = answ H c)
    (fun ρ h => ρ = [some (dHs H), some (tD c), some (.ref 0), some (dNd (.ans (answ H c)))] ∧ h = [.lst ((asks_ H c).map nat)])
    (fun m ρ h => by
      rintro ⟨i, n, acc, e, hi, hm, ha, rfl, rfl, q1, q2⟩
      have fl : H.nd.length - i = (H.nd.length - i - 1) + 1 := by omega
      cases n with
      | ans a =>
        left
        rw [fl] at q1 q2
        simp only [ask, e, List.append_nil] at q1 q2
        subst q1 q2
        refine ⟨_, ?_, rfl, rfl⟩
        simp only [evSs, evS, evE, evEs, evT, evTs, evIt, R.bind_ok, R.of_some, Out.of_ok, R.nox, tst, Option.map_some, Option.map, List.getElem?_cons_zero, List.getElem?_cons_succ, List.set_cons_zero, List.set_cons_succ, tru_bl, add_ii, sub_ii, lt_ii, ge_ii, int_i, if_true, if_false, Bool.false_eq_true, Bool.not_true, Bool.not_false, dNd, ixT0, eq_ss]
        rfl
      | look cell ts =>
        right
        obtain ⟨x, t, n', e1, e2, e3, e4, e5, e6⟩ := ask_step ok co e
        rw [fl] at q1 q2
        simp only [ask, e, e1, e3] at q1 q2
        have hl : (List.map nat acc).length < sizeLine := by rw [List.length_map]; exact small_size (by have := ok.nd1; omega)
        obtain ⟨b1, b2⟩ := append_r (h := [.lst (acc.map nat)]) (p := 0) (x := nat cell) rfl hl
        have fu := ask_fuel ok co (H.nd.length - i - 1) (H.nd.length - t) t e6 (by omega) (by omega)
        refine ⟨[.lst (acc.map nat)], [some (dHs H), some (tD c), some (.ref 0), some (dNd n')], [.lst ((acc ++ [cell]).map nat)], H.nd.length - t, ?_, .inl ?_, by omega, t, n', acc ++ [cell], e4, e6, rfl, by rw [List.length_append]; simp; omega, rfl, rfl, ?_, ?_⟩
        · simp only [evSs, evS, evE, evEs, evT, evTs, evIt, R.bind_ok, R.of_some, Out.of_ok, R.nox, tst, Option.map_some, Option.map, List.getElem?_cons_zero, List.getElem?_cons_succ, List.set_cons_zero, List.set_cons_succ, tru_bl, add_ii, sub_ii, lt_ii, ge_ii, int_i, if_true, if_false, Bool.false_eq_true, Bool.not_true, Bool.not_false, dNd, ixT0, eq_ss]
          rfl
        · have z1 : ∀ hh, ixD hh (tD c) (nat cell) = some (.int x) := fun hh => ix_tup (ixM e1)
          have z2 : ∀ hh, ixD hh (.tup (ts.map nat)) (.int x) = some (nat t) := fun hh => ix_tupI e2 (ixM e3)
          have z3 : ∀ hh, ixD hh (.tup (H.nd.map dNd)) (nat t) = some (dNd n') := fun hh => ix_tup (ixM e4)
          simp only [evSs, evS, evE, evEs, evT, evTs, evIt, R.bind_ok, R.of_some, Out.of_ok, R.nox, tst, Option.map_some, Option.map, List.getElem?_cons_zero, List.getElem?_cons_succ, List.set_cons_zero, List.set_cons_succ, tru_bl, add_ii, sub_ii, lt_ii, ge_ii, int_i, if_true, if_false, Bool.false_eq_true, Bool.not_true, Bool.not_false, dNd, dHs, ixT0, ixT1, ixT2, b1, b2, z1, z2, z3]
          simp [List.map_append]
        · rw [← fu, List.append_assoc]; exact q1
        · rw [← fu]; exact q2)
    w (H.nd.length - 0) [some (dHs H), some (tD c), some (.ref 0), some (dNd n0)] [.lst []] ⟨0, n0, [], e0, by have := ok.nd0; omega, rfl, Nat.le_refl _, rfl, rfl, rfl, rfl⟩ (by have := ok.nd1; omega)
  obtain ⟨ρ', h', e1, rfl, rfl⟩ := loop
  refine call_rt (f := ⟨name, 2, 4, askedB⟩) (ρ := [some (dHs H), some (tD c), some (.ref 0), some (dNd (.ans (answ H c)))]) tb rfl ?_
  show evSs (callN T w k) w askedB [some (dHs H), some (tD c), none, none] [] = _
  have s1 : evS (callN T w k) w (.par [2, 3] (.cons (.lstM .nil) (.cons (.ix (.ix (.var 0) (.c (.int 1))) (.c (.int 0))) .nil))) [some (dHs H), some (tD c), none, none] [] = .nx [some (dHs H), some (tD c), some (.ref 0), some (dNd n0)] [.lst []] := by
    have z : ∀ hh, ixD hh (.tup (H.nd.map dNd)) (.int 0) = some (dNd n0) := fun hh => ix_tup (i := 0) (ixM e0)
    simp only [evSs, evS, evE, evEs, evT, evTs, evIt, R.bind_ok, R.of_some, Out.of_ok, R.nox, tst, Option.map_some, Option.map, List.getElem?_cons_zero, List.getElem?_cons_succ, List.set_cons_zero, List.set_cons_succ, tru_bl, add_ii, sub_ii, lt_ii, ge_ii, int_i, if_true, if_false, Bool.false_eq_true, Bool.not_true, Bool.not_false, dHs, ixT1, z]
    rfl
  have s2 : evS (callN T w k) w (.whl (.cmp .eq (.ix (.var 3) (.c (.int 0))) (.c (.str "look"))) (.cons (.ex (.bm .append (.var 2) (.cons (.ix (.var 3) (.c (.int 1))) .nil))) (.cons (.asg (.nm 3) (.ix (.ix (.var 0) (.c (.int 1))) (.ix (.ix (.var 3) (.c (.int 2))) (.ix (.var 1) (.ix (.var 3) (.c (.int 1))))))) .nil)))
      [some (dHs H), some (tD c), some (.ref 0), some (dNd n0)] [.lst []] = .nx [some (dHs H), some (tD c), some (.ref 0), some (dNd (.ans (answ H c)))] [.lst ((asks_ H c).map nat)] := e1
  rw [askedB, seq_nx s1, seq_nx s2]
  have z : b1D [.lst ((asks_ H c).map nat)] .tuple (.ref 0) = .ok (.tup ((asks_ H c).map nat)) [.lst ((asks_ H c).map nat)] := tuple_r rfl
  simp only [evSs, evS, evE, evEs, evT, evTs, evIt, R.bind_ok, R.of_some, Out.of_ok, R.nox, tst, Option.map_some, Option.map, List.getElem?_cons_zero, List.getElem?_cons_succ, List.set_cons_zero, List.set_cons_succ, tru_bl, add_ii, sub_ii, lt_ii, ge_ii, int_i, if_true, if_false, Bool.false_eq_true, Bool.not_true, Bool.not_false, dNd, ixT1, z]
end Rx

/-! RyD: texts of values, verdicts, all contents. -/
namespace Rx
open PySem L2
variable {T : List Fn} {w k : Nat} {h : Hq} {cl : Cl}

mutual
/-- nothing of the script within -/
def isSl : D → Bool
  | .slst _ => false
  | .tup xs => isSls xs
  | .lst xs => isSls xs
  | _ => true
def isSls : List D → Bool
  | [] => true
  | x :: xs => isSl x && isSls xs
end
/-! ### what may be shown -/
structure OkW (n W : Nat) (d : D) : Prop where
  pl : plain n d = true
  sm : sml d = true
  wt : (toP d).weight ≤ W
theorem plain_mono : ∀ {n m : Nat} {d : D}, plain n d = true → n ≤ m → plain m d = true
  | _, _, .non, _, _ => by cases ‹Nat› <;> rfl
  | n, m, .bl _, _, _ => by unfold plain; rfl
  | n, m, .int _, _, _ => by unfold plain; rfl
  | n, m, .str x, p, _ => by unfold plain at p ⊢; exact p
  | 0, m, .tup xs, p, _ => by simp [plain] at p
  | 0, m, .lst xs, p, _ => by simp [plain] at p
  | 0, m, .slst xs, p, _ => by simp [plain] at p
  | n + 1, 0, _, _, l => absurd l (by omega)
  | n + 1, m + 1, .tup xs, p, l => by
    simp only [plain, List.all_eq_true] at p ⊢
    exact fun x q => plain_mono (p x q) (by omega)
  | n + 1, m + 1, .lst xs, p, l => by
    simp only [plain, List.all_eq_true] at p ⊢
    exact fun x q => plain_mono (p x q) (by omega)
  | n + 1, m + 1, .slst xs, p, l => by
    simp only [plain, List.all_eq_true] at p ⊢
    exact fun x q => plain_mono (p x q) (by omega)
  | 0, _, .dct _ _, p, _ => by simp [plain] at p
  | _ + 1, _, .dct _ _, p, _ => by simp [plain] at p
  | 0, _, .ref _, p, _ => by simp [plain] at p
  | _ + 1, _, .ref _, p, _ => by simp [plain] at p
  | 0, _, .clo _ _, p, _ => by simp [plain] at p
  | _ + 1, _, .clo _ _, p, _ => by simp [plain] at p
  | 0, _, .hole, p, _ => by simp [plain] at p
  | _ + 1, _, .hole, p, _ => by simp [plain] at p
theorem OkW.mono {n m W W' : Nat} {d : D} (o : OkW n W d) (h1 : n ≤ m) (h2 : W ≤ W') : OkW m W' d := ⟨plain_mono o.pl h1, o.sm, Nat.le_trans o.wt h2⟩
theorem OkW.shw {n W : Nat} {d : D} (o : OkW n W d) (h1 : n ≤ 60) (h2 : W ≤ 1048576) : shw d = true := by
  have := plain_mono o.pl h1
  unfold Rx.shw
  rw [this, o.sm, decide_eq_true (Nat.le_trans o.wt h2)]; rfl
theorem okW_int {i : Int} (h1 : -1000000 ≤ i) (h2 : i ≤ 1000000) : OkW 0 20 (.int i) := by
  refine ⟨rfl, ?_, ?_⟩
  · show decide (i.natAbs ≤ 999999999999) = true
    exact decide_eq_true (by omega)
  · show PyData.weight (.int i) ≤ 20
    have z : i.natAbs < 2 ^ 20 := by omega
    simp only [PyData.weight]
    split
    · exact Nat.zero_le _
    · rename_i q
      have q : i ≠ 0 := by simpa using q
      have := (Nat.log2_lt (by omega)).mpr z
      omega
theorem weightAll_le {W : Nat} : ∀ {xs : List D}, (∀ x ∈ xs, (toP x).weight ≤ W) → PyData.weightAll (toPs xs) ≤ xs.length * (W + 1)
  | [], _ => by simp [toPs, PyData.weightAll]
  | x :: xs, p => by
    have h1 := p x (List.mem_cons_self ..)
    have h2 := weightAll_le (W := W) (xs := xs) fun y m => p y (List.mem_cons_of_mem _ m)
    rw [toPs, PyData.weightAll, List.length_cons, Nat.add_mul]
    omega
theorem smls_all : ∀ {xs : List D}, (∀ x ∈ xs, sml x = true) → smls xs = true
  | [], _ => rfl
  | x :: xs, p => by
    rw [smls, p x (List.mem_cons_self ..), smls_all fun y m => p y (List.mem_cons_of_mem _ m)]; rfl
theorem okW_tup {n W L : Nat} {xs : List D} (p : ∀ x ∈ xs, OkW n W x) (l : xs.length ≤ L) : OkW (n + 1) (L * (W + 1)) (.tup xs) := by
  refine ⟨?_, ?_, ?_⟩
  · simp only [plain, List.all_eq_true]; exact fun x m => (p x m).pl
  · show smls xs = true
    exact smls_all fun x m => (p x m).sm
  · show PyData.weight (.tuple (toPs xs)) ≤ _
    rw [PyData.weight]
    exact Nat.le_trans (weightAll_le fun x m => (p x m).wt) (Nat.mul_le_mul_right _ l)
theorem okW_non : OkW 0 0 .non := ⟨rfl, rfl, by simp [toP, PyData.weight]⟩
theorem okW_bl (b : Bool) : OkW 0 0 (.bl b) := ⟨rfl, rfl, by simp [toP, PyData.weight]⟩
theorem okW_word {x : Str} (h1 : PyData.strOk x = true) (h2 : x.cps.size ≤ 10) : OkW 0 10 (.str x) := ⟨h1, rfl, by simpa [toP, PyData.weight] using h2⟩
theorem word_set : OkW 0 10 (.str "set") := okW_word (by decide +kernel) (by decide +kernel)
theorem word_copy : OkW 0 10 (.str "copy") := okW_word (by decide +kernel) (by decide +kernel)
theorem word_swap : OkW 0 10 (.str "swap") := okW_word (by decide +kernel) (by decide +kernel)
theorem word_add : OkW 0 10 (.str "add") := okW_word (by decide +kernel) (by decide +kernel)
theorem word_when : OkW 0 10 (.str "when") := okW_word (by decide +kernel) (by decide +kernel)
theorem word_look : OkW 0 10 (.str "look") := okW_word (by decide +kernel) (by decide +kernel)
theorem word_answer : OkW 0 10 (.str "answer") := okW_word (by decide +kernel) (by decide +kernel)
theorem word_deed : OkW 0 10 (.str "deed") := okW_word (by decide +kernel) (by decide +kernel)
theorem word_saw : OkW 0 10 (.str "saw") := okW_word (by decide +kernel) (by decide +kernel)
theorem word_ask : OkW 0 10 (.str "ask") := okW_word (by decide +kernel) (by decide +kernel)
theorem word_fits : OkW 0 10 (.str "fits") := okW_word (by decide +kernel) (by decide +kernel)
theorem word_out : OkW 0 10 (.str "out") := okW_word (by decide +kernel) (by decide +kernel)
theorem okW_nat {n : Nat} (h : n ≤ 1000000) : OkW 0 20 (nat n) := okW_int (by omega) (by omega)
theorem okW_map {α : Type} {n W L : Nat} {f : α → D} {xs : List α} (p : ∀ x ∈ xs, OkW n W (f x)) (l : xs.length ≤ L) : OkW (n + 1) (L * (W + 1)) (.tup (xs.map f)) :=
  okW_tup (fun x m => by obtain ⟨a, ha, rfl⟩ := List.mem_map.mp m; exact p a ha) (by rw [List.length_map]; exact l)
theorem okW_stp {sz : List Int} (l3 : sz.length ≤ 3) (s4 : ∀ s ∈ sz, s ≤ 4) : ∀ {s : Stp} {n : Nat}, StpOk sz s → s.dep ≤ n → OkW (n + 1) (5 ^ n * 64) (dStp s) := by
  have cell : ∀ {c : Nat} {z : Int}, sz[c]? = some z → OkW 0 20 (nat c) ∧ z ≤ 4 := fun {c z} e => by
    have := (List.getElem?_eq_some_iff.mp e).1
    exact ⟨okW_nat (by omega), s4 z (List.mem_of_getElem? e)⟩
  intro s
  induction s with
  | set c v =>
    rintro n ⟨z, e, h1, h2⟩ _
    obtain ⟨o, l⟩ := cell e
    refine (okW_tup (n := 0) (W := 20) (L := 3) (fun x m => ?_) (Nat.le_refl _)).mono (by omega) (by have := Nat.one_le_pow n 5 (by omega); omega)
    simp only [List.mem_cons, List.mem_nil_iff, or_false] at m
    rcases m with rfl | rfl | rfl
    · exact word_set.mono (Nat.le_refl _) (by omega)
    · exact o
    · exact okW_int (by omega) (by omega)
  | add c v =>
    rintro n ⟨z, e, h1, h2⟩ _
    obtain ⟨o, l⟩ := cell e
    refine (okW_tup (n := 0) (W := 20) (L := 3) (fun x m => ?_) (Nat.le_refl _)).mono (by omega) (by have := Nat.one_le_pow n 5 (by omega); omega)
    simp only [List.mem_cons, List.mem_nil_iff, or_false] at m
    rcases m with rfl | rfl | rfl
    · exact word_add.mono (Nat.le_refl _) (by omega)
    · exact o
    · exact okW_int (by omega) (by omega)
  | cpy c d =>
    rintro n ⟨z, e, e', h2⟩ _
    obtain ⟨o, l⟩ := cell e
    obtain ⟨o', l⟩ := cell e'
    refine (okW_tup (n := 0) (W := 20) (L := 3) (fun x m => ?_) (Nat.le_refl _)).mono (by omega) (by have := Nat.one_le_pow n 5 (by omega); omega)
    simp only [List.mem_cons, List.mem_nil_iff, or_false] at m
    rcases m with rfl | rfl | rfl
    · exact word_copy.mono (Nat.le_refl _) (by omega)
    · exact o
    · exact o'
  | swp c d =>
    rintro n ⟨z, e, e', h2⟩ _
    obtain ⟨o, l⟩ := cell e
    obtain ⟨o', l⟩ := cell e'
    refine (okW_tup (n := 0) (W := 20) (L := 3) (fun x m => ?_) (Nat.le_refl _)).mono (by omega) (by have := Nat.one_le_pow n 5 (by omega); omega)
    simp only [List.mem_cons, List.mem_nil_iff, or_false] at m
    rcases m with rfl | rfl | rfl
    · exact word_swap.mono (Nat.le_refl _) (by omega)
    · exact o
    · exact o'
  | whn c v s ih =>
    rintro n ⟨⟨z, e, h1, h2⟩, so⟩ hd
    obtain ⟨o, l⟩ := cell e
    cases n with
    | zero => exact absurd hd (by simp [Stp.dep])
    | succ n =>
      have hs := ih so (n := n) (by simpa [Stp.dep] using hd)
      have p1 := Nat.one_le_pow n 5 (by omega)
      refine (okW_tup (n := n + 1) (W := 5 ^ n * 64) (L := 4) (fun x m => ?_) (Nat.le_refl _)).mono (by omega) (by rw [Nat.pow_succ]; omega)
      simp only [List.mem_cons, List.mem_nil_iff, or_false] at m
      rcases m with rfl | rfl | rfl | rfl
      · exact word_when.mono (by omega) (by omega)
      · exact o.mono (by omega) (by omega)
      · exact (okW_int (by omega) (by omega)).mono (by omega) (by omega)
      · exact hs

theorem okW_tD {l : List Int} {L : Nat} (p : ∀ x ∈ l, -1000000 ≤ x ∧ x ≤ 1000000) (hl : l.length ≤ L) : OkW 1 (L * 21) (tD l) := okW_map (fun x m => okW_int (p x m).1 (p x m).2) hl
theorem HsOk.okW {H : Hs} (o : HsOk H) : OkW 7 864129 (dHs H) := by
  have s4 : ∀ s ∈ H.sz, s ≤ 4 := fun s m => (o.sz2 s m).2
  have h1 : OkW 1 63 (tD H.sz) := okW_tD (L := 3) (fun x m => by have := o.sz2 x m; omega) o.sz1
  have h2 : OkW 3 3072 (.tup (H.nd.map dNd)) := by
    refine okW_map (n := 2) (W := 255) (L := 12) (fun n m => ?_) o.nd1
    obtain ⟨i, hi⟩ := List.mem_iff_getElem?.mp m
    have ok := o.nd2 i n hi
    cases n with
    | ans a =>
      obtain ⟨a0, a9⟩ := ok
      refine (okW_tup (n := 0) (W := 20) (L := 2) (fun x m => ?_) (Nat.le_refl _)).mono (by omega) (by omega)
      simp only [List.mem_cons, List.mem_nil_iff, or_false] at m
      rcases m with rfl | rfl
      · exact word_answer.mono (by omega) (by omega)
      · exact okW_int (by omega) (by omega)
    | look c ts =>
      obtain ⟨s, e, l, q⟩ := ok
      have := (List.getElem?_eq_some_iff.mp e).1
      have := s4 s (List.mem_of_getElem? e)
      have := o.sz1
      have := o.nd1
      refine (okW_tup (n := 1) (W := 84) (L := 3) (fun x m => ?_) (Nat.le_refl _)).mono (by omega) (by omega)
      simp only [List.mem_cons, List.mem_nil_iff, or_false] at m
      rcases m with rfl | rfl | rfl
      · exact word_look.mono (by omega) (by omega)
      · exact (okW_nat (by omega)).mono (by omega) (by omega)
      · exact okW_map (n := 0) (W := 20) (L := 4) (fun t m => okW_nat (by have := q t m; omega)) (by omega)
  have h3 : OkW 6 288042 (.tup (H.dd.map dDd)) := by
    refine okW_map (n := 5) (W := 48006) (L := 6) (fun d m => ?_) o.dd1
    obtain ⟨l, q⟩ := o.dd2 d m
    refine okW_map (n := 4) (W := 8000) (L := 6) (fun s m => ?_) l
    have := okW_stp (n := 3) o.sz1 s4 (q s m).1 (q s m).2
    exact this
  refine (okW_tup (n := 6) (W := 288042) (L := 3) (fun x m => ?_) (Nat.le_refl _)).mono (by omega) (by omega)
  simp only [List.mem_cons, List.mem_nil_iff, or_false] at m
  rcases m with rfl | rfl | rfl
  · exact h1.mono (by omega) (by omega)
  · exact h2.mono (by omega) (by omega)
  · exact h3
theorem HsOk.shw {H : Hs} (o : HsOk H) : shw (dHs H) = true := o.okW.shw (by omega) (by omega)
mutual
theorem plain_fz : ∀ {n : Nat} {d : D}, plain n d = true → isSl d = true → fzN n d = true
  | _, .non, _, _ => by unfold fzN; rfl
  | _, .bl _, _, _ => by unfold fzN; rfl
  | _, .int _, _, _ => by unfold fzN; rfl
  | _, .str _, _, _ => by unfold fzN; rfl
  | 0, .tup _, p, _ => by simp [plain] at p
  | 0, .lst _, p, _ => by simp [plain] at p
  | n + 1, .tup xs, p, q => by
    simp only [plain, List.all_eq_true] at p
    rw [fzN]
    exact plains_fz p (by simpa [isSl] using q)
  | n + 1, .lst xs, p, q => by
    simp only [plain, List.all_eq_true] at p
    rw [fzN]
    exact plains_fz p (by simpa [isSl] using q)
  | _, .slst _, _, q => by simp [isSl] at q
  | 0, .dct _ _, p, _ => by simp [plain] at p
  | _ + 1, .dct _ _, p, _ => by simp [plain] at p
  | 0, .ref _, p, _ => by simp [plain] at p
  | _ + 1, .ref _, p, _ => by simp [plain] at p
  | 0, .clo _ _, p, _ => by simp [plain] at p
  | _ + 1, .clo _ _, p, _ => by simp [plain] at p
  | 0, .hole, p, _ => by simp [plain] at p
  | _ + 1, .hole, p, _ => by simp [plain] at p
theorem plains_fz : ∀ {n : Nat} {ds : List D}, (∀ x ∈ ds, plain n x = true) → isSls ds = true → fzNs n ds = true
  | _, [], _, _ => rfl
  | n, d :: ds, p, q => by
    have q : isSl d = true ∧ isSls ds = true := by simpa [isSls] using q
    rw [fzNs, plain_fz (p d (List.mem_cons_self ..)) q.1, plains_fz (fun x m => p x (List.mem_cons_of_mem _ m)) q.2]; rfl
end
mutual
theorem fzN_mono : ∀ {n m : Nat} {d : D}, fzN n d = true → n ≤ m → fzN m d = true
  | _, _, .non, _, _ => by unfold fzN; rfl
  | _, _, .bl _, _, _ => by unfold fzN; rfl
  | _, _, .int _, _, _ => by unfold fzN; rfl
  | _, _, .str _, _, _ => by unfold fzN; rfl
  | 0, _, .tup _, p, _ => by simp [fzN] at p
  | 0, _, .lst _, p, _ => by simp [fzN] at p
  | n + 1, 0, .tup _, _, l => absurd l (by omega)
  | n + 1, 0, .lst _, _, l => absurd l (by omega)
  | n + 1, m + 1, .tup xs, p, l => by rw [fzN] at p ⊢; exact fzNs_mono p (by omega)
  | n + 1, m + 1, .lst xs, p, l => by rw [fzN] at p ⊢; exact fzNs_mono p (by omega)
  | 0, _, .slst _, p, _ => by simp [fzN] at p
  | _ + 1, _, .slst _, p, _ => by simp [fzN] at p
  | 0, _, .dct _ _, p, _ => by simp [fzN] at p
  | _ + 1, _, .dct _ _, p, _ => by simp [fzN] at p
  | 0, _, .ref _, p, _ => by simp [fzN] at p
  | _ + 1, _, .ref _, p, _ => by simp [fzN] at p
  | 0, _, .clo _ _, p, _ => by simp [fzN] at p
  | _ + 1, _, .clo _ _, p, _ => by simp [fzN] at p
  | 0, _, .hole, p, _ => by simp [fzN] at p
  | _ + 1, _, .hole, p, _ => by simp [fzN] at p
theorem fzNs_mono : ∀ {n m : Nat} {ds : List D}, fzNs n ds = true → n ≤ m → fzNs m ds = true
  | _, _, [], _, _ => rfl
  | n, m, d :: ds, p, l => by
    have p : fzN n d = true ∧ fzNs n ds = true := by simpa [fzNs] using p
    rw [fzNs, fzN_mono p.1 l, fzNs_mono p.2 l]; rfl
end
/-- frozen, to depth 20 -/
abbrev Fz (d : D) : Prop := fzN 20 d = true
theorem Fz.frz {d : D} (p : Fz d) (n : Nat) (h : Hq) {k : Nat} (l : 20 ≤ k) : frz n h k d = some d := frz_id n k d (fzN_mono p l)
theorem fz_args {ds : List D} (p : ∀ d ∈ ds, Fz d) : fzNs 60 ds = true := by
  rw [fzNs_all, List.all_eq_true]
  exact fun d m => fzN_mono (p d m) (by omega)
theorem fzNs_map {α : Type} {f : α → D} {n : Nat} {xs : List α} (p : ∀ x ∈ xs, fzN n (f x) = true) : fzNs n (xs.map f) = true := by
  rw [fzNs_all, List.all_eq_true]
  intro d m
  obtain ⟨a, ha, rfl⟩ := List.mem_map.mp m
  exact p a ha
theorem fz_tD (l : List Int) {n : Nat} : fzN (n + 1) (tD l) = true := by
  unfold tD; rw [fzN]; exact fzNs_map fun x _ => by unfold fzN; rfl
theorem fz_int (i : Int) {n : Nat} : fzN n (.int i) = true := by unfold fzN; rfl
theorem fz_str (i : Str) {n : Nat} : fzN n (.str i) = true := by unfold fzN; rfl
theorem fz_nat (i : Nat) {n : Nat} : fzN n (nat i) = true := fz_int _
theorem fz_dHs {H : Hs} (o : HsOk H) : Fz (dHs H) := fzN_mono (plain_fz o.okW.pl (by
  have i1 : ∀ l : List Int, isSls (l.map D.int) = true := fun l => by induction l with | nil => rfl | cons a l ih => simpa [isSls, isSl] using ih
  have i2 : ∀ l : List Nat, isSls (l.map nat) = true := fun l => by induction l with | nil => rfl | cons a l ih => simpa [isSls, isSl, nat] using ih
  have i3 : ∀ l : List Nd, isSls (l.map dNd) = true := fun l => by
    induction l with
    | nil => rfl
    | cons a l ih =>
      cases a <;> simp only [List.map_cons, isSls, isSl, dNd, nat, ih, i2, Bool.and_true]
  have i4 : ∀ s : Stp, isSl (dStp s) = true := fun s => by induction s <;> simp_all [dStp, isSl, isSls, nat]
  have i5 : ∀ l : List Stp, isSls (l.map dStp) = true := fun l => by induction l with | nil => rfl | cons a l ih => simp only [List.map_cons, isSls, ih, i4, Bool.and_true]
  have i6 : ∀ l : List (List Stp), isSls (l.map dDd) = true := fun l => by induction l with | nil => rfl | cons a l ih => simp only [List.map_cons, isSls, ih, dDd, isSl, i5, Bool.and_true]
  simp only [dHs, isSl, isSls, tD, i1, i3, i6, Bool.and_true])) (by omega)
end Rx

/-! RyE: verdicts, all contents. -/
namespace Rx
open PySem L2
variable {T : List Fn} {w k : Nat} {h : Hq} {cl : Cl}

theorem frzs_lst {p : Nat} {h : Hq} {xs : List D} {n : Nat} (e : h[p]? = some (.lst xs)) (f : fzNs n xs = true) : frz 0 h (n + 1) (.ref p) = some (.lst xs) := by
  show (if p < 0 then some (D.ref p) else match h[p]? with
      | some (.lst xs) => (xs.mapM (frz 0 h n)).map .lst
      | some (.dct ks vs) => match ks.mapM (frz 0 h n), vs.mapM (frz 0 h n) with
        | some a, some b => some (.dct a b)
        | _, _ => none
      | _ => none) = _
  rw [if_neg (Nat.not_lt_zero _), e]
  dsimp only
  rw [frzs_id 0 n xs f]; rfl
theorem asked_pu {name : Str} (tb : look T name = some ⟨name, 2, 4, askedB⟩) {H : Hs} {c : List Int} (ok : HsOk H) (co : Cok H.sz c) (hw : 13 ≤ w) :
    callPu (callN T w (k + 1)) name [dHs H, tD c] h = .ok (.tup [.tup ((asks_ H c).map nat), .int (answ H c)]) h := by
  refine pu_of (asked_ok tb ok co hw) (frz_id _ _ _ ?_) (fz_args fun d m => ?_)
  · simp only [fzN, fzNs, fzNs_map (f := nat) (n := 58) (fun x _ => fz_nat x), Bool.and_true]
  · simp only [List.mem_cons, List.mem_nil_iff, or_false] at m
    rcases m with rfl | rfl
    · exact fz_dHs ok
    · exact fz_tD c

/-! ### the verdict -/
/-- each once, the first kept -/
def dd1 {α : Type} [DecidableEq α] (acc : List α) (x : α) : List α := if x ∈ acc then acc else acc ++ [x]
def ddp {α : Type} [DecidableEq α] (l : List α) : List α := l.foldl dd1 []
theorem dd1_mem {α : Type} [DecidableEq α] {acc : List α} {x y : α} : y ∈ dd1 acc x ↔ y ∈ acc ∨ y = x := by
  unfold dd1
  split
  · rename_i h
    exact ⟨.inl, fun q => q.elim id fun e => e ▸ h⟩
  · simp
theorem dd1_nd {α : Type} [DecidableEq α] {acc : List α} {x : α} (h : acc.Nodup) : (dd1 acc x).Nodup := by
  unfold dd1
  split
  · exact h
  · rename_i q
    rw [List.nodup_append]
    exact ⟨h, by simp, fun a ha b hb => by simp at hb; subst hb; rintro rfl; exact q ha⟩
theorem foldl_dd {α : Type} [DecidableEq α] : ∀ (l acc : List α), acc.Nodup → (l.foldl dd1 acc).Nodup ∧ ∀ y, y ∈ l.foldl dd1 acc ↔ y ∈ acc ∨ y ∈ l
  | [], acc, h => ⟨h, fun y => by simp⟩
  | x :: l, acc, h => by
    obtain ⟨h1, h2⟩ := foldl_dd l (dd1 acc x) (dd1_nd h)
    refine ⟨h1, fun y => ?_⟩
    rw [List.foldl_cons, h2, dd1_mem, List.mem_cons]
    exact ⟨fun q => by rcases q with (q | q) | q <;> simp [q], fun q => by rcases q with q | q | q <;> simp [q]⟩
theorem ddp_nd {α : Type} [DecidableEq α] (l : List α) : (ddp l).Nodup := (foldl_dd l [] List.nodup_nil).1
theorem ddp_mem {α : Type} [DecidableEq α] {l : List α} {y : α} : y ∈ ddp l ↔ y ∈ l := by
  have := (foldl_dd l [] List.nodup_nil).2 y
  simpa [ddp] using this
/-- keys put one after another -/
theorem foldl_dput {α β : Type} [DecidableEq β] (g : α → β) (en : β → D) (v : D) (inj : ∀ a b, toK (en a) = toK (en b) ↔ a = b) : ∀ (xs : List α) (acc : List β),
    xs.foldl (fun q a => dput q.1 q.2 (en (g a)) v) (acc.map en, acc.map fun _ => v) = (((xs.map g).foldl dd1 acc).map en, ((xs.map g).foldl dd1 acc).map fun _ => v)
  | [], acc => rfl
  | x :: xs, acc => by
    have st : dput (acc.map en) (acc.map fun _ => v) (en (g x)) v = ((dd1 acc (g x)).map en, (dd1 acc (g x)).map fun _ => v) := by
      unfold dput dd1
      have e : (acc.map en).any (fun q => decide (toK q = toK (en (g x)))) = decide (g x ∈ acc) := by
        rw [List.any_map]
        induction acc with
        | nil => rfl
        | cons a acc ih =>
          rw [List.any_cons, ih]
          by_cases q : a = g x
          · simp [Function.comp, q]
          · have : ¬ toK (en a) = toK (en (g x)) := fun z => q ((inj _ _).mp z)
            have q2 : ¬ g x = a := fun z => q z.symm
            simp [Function.comp, this, q2]
      rw [e]
      by_cases m : g x ∈ acc
      · rw [if_pos (decide_eq_true m), if_pos m]
        congr 1
        clear e m
        induction acc with
        | nil => rfl
        | cons a acc ih => rw [List.map_cons, List.map_cons, List.zipWith_cons_cons, ih]; split <;> rfl
      · rw [if_neg (by simpa using m), if_neg m]
        simp
    rw [List.foldl_cons, List.map_cons, List.foldl_cons]
    dsimp only
    rw [st]
    exact foldl_dput g en v inj xs (dd1 acc (g x))
theorem int_inj (a b : Int) : toK (.int a) = toK (.int b) ↔ a = b := by simp [toK]
theorem filtT {α : Type} : ∀ l : List α, l.filter (fun _ => true) = l
  | [] => rfl
  | a :: l => by rw [List.filter_cons, if_pos rfl, filtT l]
/-- the answer of all -/
def verd (H : Hs) (cs : List (List Int)) : Option Int := match ddp (cs.map (answ H)) with
  | [a] => some a
  | _ => none
def dOpt : Option Int → D
  | some a => .int a
  | none => .non
def verdictB (asks : Str) : Ss :=
  .cons (.asg (.nm 2) (.dc (.sq (.var 1)) (.nm 3) (.c (.bl true)) (.ix (.call .pu asks (.cons (.var 0) (.cons (.var 3) .nil))) (.c (.int 1))) (.c (.bl true)))) <|
  .cons (.ret (.ite (.cmp .eq (.b1 .len (.var 2)) (.c (.int 1))) (.ix (.b1 .list (.var 2)) (.c (.int 0))) (.c .non))) <|
  .nil
theorem verdict_ok {name asks : Str} (tb : look T name = some ⟨name, 2, 4, verdictB asks⟩) (ta : look T asks = some ⟨asks, 2, 4, askedB⟩) {H : Hs} {cs : List (List Int)} (ok : HsOk H) (co : ∀ c ∈ cs, Cok H.sz c) (lc : cs.length ≤ 1000) (hw : 13 ≤ w) :
    callPu (callN T w (k + 2)) name [dHs H, .tup (cs.map tD)] h = .ok (dOpt (verd H cs)) h := by
  have ft : fits (cs.map tD).length = true := by rw [List.length_map]; exact fits_small (by omega)
  have dc : dcL none (fun d h => evT (callN T w (k + 1)) (.nm 3) d (wipeE [some (dHs H), some (.tup (cs.map tD)), none, none] [3]) h) (fun ρ h => tst (evE (callN T w (k + 1)) (.c (.bl true)) ρ h))
      (fun ρ h => evE (callN T w (k + 1)) (.ix (.call .pu asks (.cons (.var 0) (.cons (.var 3) .nil))) (.c (.int 1))) ρ h) (fun ρ h => evE (callN T w (k + 1)) (.c (.bl true)) ρ h) (cs.map tD) [] [] [] =
      .ok ((ddp (cs.map (answ H))).map .int, (ddp (cs.map (answ H))).map fun _ => .bl true) [] := by
    rw [dcL_map (f := tD) (p := fun _ => true) (g := fun c => .int (answ H c)) (v := fun _ => .bl true) (h := []) (fun a b => ⟨rfl, rfl⟩) cs [] [] (fun q m => nomatch m) (fun c m => ?_)]
    · have := foldl_dput (answ H) D.int (.bl true) int_inj cs []
      rw [filtT]
      exact congrArg (fun z => R.ok z []) this
    · refine ⟨[some (dHs H), some (.tup (cs.map tD)), none, some (tD c)], rfl, rfl, fun _ => ⟨?_, rfl⟩⟩
      have := asked_pu (h := []) (k := k) ta ok (co c m) hw
      simp only [evSs, evS, evE, evEs, evT, evTs, evIt, R.bind_ok, R.of_some, Out.of_ok, R.nox, tst, Option.map_some, Option.map, List.getElem?_cons_zero, List.getElem?_cons_succ, List.set_cons_zero, List.set_cons_succ, tru_bl, add_ii, sub_ii, lt_ii, ge_ii, int_i, if_true, if_false, Bool.false_eq_true, Bool.not_true, Bool.not_false, callD, this, ixT1]
  have s1 : evS (callN T w (k + 1)) w (.asg (.nm 2) (.dc (.sq (.var 1)) (.nm 3) (.c (.bl true)) (.ix (.call .pu asks (.cons (.var 0) (.cons (.var 3) .nil))) (.c (.int 1))) (.c (.bl true)))) [some (dHs H), some (.tup (cs.map tD)), none, none] [] =
      .nx [some (dHs H), some (.tup (cs.map tD)), some (.dct ((ddp (cs.map (answ H))).map .int) ((ddp (cs.map (answ H))).map fun _ => .bl true)), none] [] := ev_asg (ev_dc rfl ft dc)
  have fin : ∀ v : D, evS (callN T w (k + 1)) w (.ret (.ite (.cmp .eq (.b1 .len (.var 2)) (.c (.int 1))) (.ix (.b1 .list (.var 2)) (.c (.int 0))) (.c .non))) [some (dHs H), some (.tup (cs.map tD)), some (.dct ((ddp (cs.map (answ H))).map .int) ((ddp (cs.map (answ H))).map fun _ => .bl true)), none] [] = .rt (dOpt (verd H cs)) [some (dHs H), some (.tup (cs.map tD)), some (.dct ((ddp (cs.map (answ H))).map .int) ((ddp (cs.map (answ H))).map fun _ => .bl true)), none] [] := by
    intro _
    have ln : b1D [] .len (.dct ((ddp (cs.map (answ H))).map .int) ((ddp (cs.map (answ H))).map fun _ => .bl true)) = .ok (.int ((ddp (cs.map (answ H))).length : Nat)) [] := by
      show R.ok (D.int (((ddp (cs.map (answ H))).map D.int).length : Nat)) [] = _
      rw [List.length_map]
    have ls : b1D [] .list (.dct ((ddp (cs.map (answ H))).map .int) ((ddp (cs.map (answ H))).map fun _ => .bl true)) = .ok (.lst ((ddp (cs.map (answ H))).map .int)) [] := rfl
    simp only [evSs, evS, evE, evEs, evT, evTs, evIt, R.bind_ok, R.of_some, Out.of_ok, R.nox, tst, Option.map_some, Option.map, List.getElem?_cons_zero, List.getElem?_cons_succ, List.set_cons_zero, List.set_cons_succ, tru_bl, add_ii, sub_ii, lt_ii, ge_ii, int_i, if_true, if_false, Bool.false_eq_true, Bool.not_true, Bool.not_false, ln, ls, eq_ii]
    unfold verd
    cases q : ddp (cs.map (answ H)) with
    | nil => rfl
    | cons a l =>
      cases l with
      | nil => rfl
      | cons b l =>
        have : ¬ (((a :: b :: l).length : Nat) : Int) = 1 := by simp only [List.length_cons]; omega
        rw [decide_eq_false this]; rfl
  refine pu_of (d := dOpt (verd H cs)) (h' := []) (call_rt (f := ⟨name, 2, 4, verdictB asks⟩) (ρ := [some (dHs H), some (.tup (cs.map tD)), some (.dct ((ddp (cs.map (answ H))).map .int) ((ddp (cs.map (answ H))).map fun _ => .bl true)), none]) tb rfl ?_) (by cases verd H cs <;> rfl) (fz_args fun d m => ?_)
  · show evSs (callN T w (k + 1)) w (verdictB asks) [some (dHs H), some (.tup (cs.map tD)), none, none] [] = _
    rw [verdictB, seq_nx s1]
    show (match evS (callN T w (k + 1)) w _ _ _ with
      | .nx ρ1 h1 => evSs (callN T w (k + 1)) w _ ρ1 h1
      | o => o) = _
    rw [fin .non]
  · simp only [List.mem_cons, List.mem_nil_iff, or_false] at m
    rcases m with rfl | rfl
    · exact fz_dHs ok
    · show fzN 20 (.tup (cs.map tD)) = true
      rw [fzN]
      exact fzNs_map fun c _ => fz_tD c

/-- the frozen value that a body returns -/
def outFrz (o : Out) : Option D := match o with
  | .rt d _ h => frz 0 h 60 d
  | _ => none
theorem pu_run {f : Fn} {ds : List D} {v : D} (tb : look T f.name = some f) (hl : ds.length = f.np) (r : outFrz (evSs (callN T w k) w f.body (ds.map some ++ List.replicate (f.ns - f.np) none) []) = some v) (a : ∀ d ∈ ds, Fz d) :
    callPu (callN T w (k + 1)) f.name ds h = .ok v h := by
  cases e : evSs (callN T w k) w f.body (ds.map some ++ List.replicate (f.ns - f.np) none) [] with
  | rt d ρ h' =>
    rw [e] at r
    exact pu_of (call_rt tb hl e) r (fz_args a)
  | _ => rw [e] at r; cases r
/-- tuple or list -/
def sqD (b : Bool) (xs : List D) : D := if b then .tup xs else .lst xs
theorem sqD_seq (b : Bool) (xs : List D) : seqOf h (sqD b xs) = some xs := by cases b <;> rfl
theorem sqD_src (b : Bool) (xs : List D) : srcOf h (sqD b xs) = none := by cases b <;> rfl
theorem ev_sq {e : E} {ρ : Ev} {h1 : Hq} {b : Bool} {xs : List D} (q : evE cl e ρ h = .ok (sqD b xs) h1) : evIt cl (.sq e) ρ h = .ok (none, xs) h1 := by
  rw [evIt, q, R.bind_ok, sqD_seq, sqD_src]; rfl
theorem fz_sqD {b : Bool} {n : Nat} {xs : List D} (p : fzNs n xs = true) : fzN (n + 1) (sqD b xs) = true := by cases b <;> exact p
def lawVerdB (asks : Str) : Ss :=
  .cons (.asg (.nm 2) (.b1 .sset (.lc (.sq (.var 1)) (.nm 3) (.c (.bl true)) (.ix (.call .pu asks (.cons (.var 0) (.cons (.var 3) .nil))) (.c (.int 1)))))) <|
  .cons (.ret (.ite (.cmp .eq (.b1 .len (.var 2)) (.c (.int 1))) (.ix (.var 2) (.c (.int 0))) (.c .non))) <|
  .nil
theorem allI_ints : ∀ ns : List Int, allI (ns.map D.int) = some ns
  | [] => rfl
  | n :: ns => by
    show (allI (ns.map D.int)).map (n :: ·) = _
    rw [allI_ints ns]; rfl
theorem sset_ints {ns : List Int} (l : ns.length < 64) : b1D h .sset (.lst (ns.map .int)) = .ok (.lst ((srtI (once ns)).map .int)) h := by
  show (match allI (ns.map D.int) with
      | some ns => if ns.length < 64 then R.ok (D.lst ((srtI (once ns)).map .int)) h else R.er
      | none => _) = _
  rw [allI_ints]
  dsimp only
  rw [if_pos l]
theorem once_ddp (ns : List Int) : (srtI (once ns)).Perm (ddp ns) := by
  refine (srt_perm _).trans ((List.perm_ext_iff_of_nodup (once_nd ns) (ddp_nd ns)).mpr fun x => ?_)
  rw [once_mem, ddp_mem]
theorem lawVerd_ok {name asks : Str} {b : Bool} (tb : look T name = some ⟨name, 2, 4, lawVerdB asks⟩) (ta : look T asks = some ⟨asks, 2, 4, askedB⟩) {H : Hs} {cs : List (List Int)} (ok : HsOk H) (co : ∀ c ∈ cs, Cok H.sz c) (lc : cs.length < 64) (hw : 13 ≤ w) :
    callPu (callN T w (k + 2)) name [dHs H, sqD b (cs.map tD)] h = .ok (dOpt (verd H cs)) h := by
  have ft : fits (cs.map tD).length = true := by rw [List.length_map]; exact fits_small (by omega)
  have co' : evE (callN T w (k + 1)) (.lc (.sq (.var 1)) (.nm 3) (.c (.bl true)) (.ix (.call .pu asks (.cons (.var 0) (.cons (.var 3) .nil))) (.c (.int 1)))) [some (dHs H), some (sqD b (cs.map tD)), none, none] [] = .ok (.lst ((cs.map (answ H)).map .int)) [] := by
    refine ev_lc (ev_sq rfl) ft ?_
    rw [lcL_map (f := tD) (p := fun _ => true) (g := fun c => .int (answ H c)) (h := []) cs (fun c m => ?_), filtT, List.map_map]
    · rfl
    · refine ⟨[some (dHs H), some (sqD b (cs.map tD)), none, some (tD c)], rfl, rfl, fun _ => ?_⟩
      have := asked_pu (h := []) (k := k) ta ok (co c m) hw
      simp only [evSs, evS, evE, evEs, evT, evTs, evIt, R.bind_ok, R.of_some, Out.of_ok, R.nox, tst, Option.map_some, Option.map, List.getElem?_cons_zero, List.getElem?_cons_succ, List.set_cons_zero, List.set_cons_succ, tru_bl, add_ii, sub_ii, lt_ii, ge_ii, int_i, if_true, if_false, Bool.false_eq_true, Bool.not_true, Bool.not_false, callD, this, ixT1]
  have s1 : evS (callN T w (k + 1)) w (.asg (.nm 2) (.b1 .sset (.lc (.sq (.var 1)) (.nm 3) (.c (.bl true)) (.ix (.call .pu asks (.cons (.var 0) (.cons (.var 3) .nil))) (.c (.int 1)))))) [some (dHs H), some (sqD b (cs.map tD)), none, none] [] =
      .nx [some (dHs H), some (sqD b (cs.map tD)), some (.lst ((srtI (once (cs.map (answ H)))).map .int)), none] [] := by
    refine ev_asg ?_
    rw [evE, co', R.bind_ok, sset_ints (by rw [List.length_map]; exact lc)]
  refine pu_run (f := ⟨name, 2, 4, lawVerdB asks⟩) tb rfl ?_ (fun d m => ?_)
  · show outFrz (evSs (callN T w (k + 1)) w (lawVerdB asks) [some (dHs H), some (sqD b (cs.map tD)), none, none] []) = _
    rw [lawVerdB, seq_nx s1]
    have pm := once_ddp (cs.map (answ H))
    have ll := pm.length_eq
    have ln : b1D [] .len (.lst ((srtI (once (cs.map (answ H)))).map .int)) = .ok (.int ((ddp (cs.map (answ H))).length : Nat)) [] := by
      rw [len_l, List.length_map, ll]
    simp only [evSs, evS, evE, evEs, evT, evTs, evIt, R.bind_ok, R.of_some, Out.of_ok, R.nox, tst, Option.map_some, Option.map, List.getElem?_cons_zero, List.getElem?_cons_succ, List.set_cons_zero, List.set_cons_succ, tru_bl, add_ii, sub_ii, lt_ii, ge_ii, int_i, if_true, if_false, Bool.false_eq_true, Bool.not_true, Bool.not_false, ln, eq_ii]
    unfold verd
    cases q : ddp (cs.map (answ H)) with
    | nil => rfl
    | cons a l =>
      cases l with
      | nil =>
        rw [q] at pm
        have e := List.perm_singleton.mp pm
        rw [e]; rfl
      | cons c l =>
        have : ¬ (((a :: c :: l).length : Nat) : Int) = 1 := by simp only [List.length_cons]; omega
        rw [decide_eq_false this]; rfl
  · simp only [List.mem_cons, List.mem_nil_iff, or_false] at m
    rcases m with rfl | rfl
    · exact fz_dHs ok
    · exact fz_sqD (fzNs_map fun c _ => fz_tD c)

/-! ### all contents -/
def contM (sz : List Int) : List (List Int) := sz.foldl (fun found s => (found.map fun c => (List.range s.toNat).map fun (v : Nat) => c ++ [(v : Int)]).flatten) [[]]
theorem sz_cases {H : Hs} (o : HsOk H) : H.sz = [2] ∨ H.sz = [3] ∨ H.sz = [4] ∨ H.sz = [2, 2] ∨ H.sz = [2, 3] ∨ H.sz = [3, 2] ∨ H.sz = [2, 4] ∨ H.sz = [4, 2] ∨ H.sz = [2, 2, 2] := by
  have h0 := o.sz0
  have h1 := o.sz1
  have h2 := o.sz2
  have h3 := o.sz3
  match e : H.sz with
  | [] => rw [e] at h0; simp at h0
  | [a] =>
    have := h2 a (by rw [e]; simp)
    have : a = 2 ∨ a = 3 ∨ a = 4 := by omega
    rcases this with rfl | rfl | rfl <;> simp
  | [a, b] =>
    have ha := h2 a (by rw [e]; simp)
    have hb := h2 b (by rw [e]; simp)
    rw [e] at h3
    have ea : a = 2 ∨ a = 3 ∨ a = 4 := by omega
    have eb : b = 2 ∨ b = 3 ∨ b = 4 := by omega
    rcases ea with rfl | rfl | rfl <;> rcases eb with rfl | rfl | rfl <;> simp at h3 ⊢
  | [a, b, c] =>
    have ha := h2 a (by rw [e]; simp)
    have hb := h2 b (by rw [e]; simp)
    have hc := h2 c (by rw [e]; simp)
    rw [e] at h3
    have ea : a = 2 ∨ a = 3 ∨ a = 4 := by omega
    have eb : b = 2 ∨ b = 3 ∨ b = 4 := by omega
    have ec : c = 2 ∨ c = 3 ∨ c = 4 := by omega
    rcases ea with rfl | rfl | rfl <;> rcases eb with rfl | rfl | rfl <;> rcases ec with rfl | rfl | rfl <;> simp at h3 ⊢
  | a :: b :: c :: d :: l => rw [e] at h1; simp at h1
def cokB (sz c : List Int) : Bool := decide (c.length = sz.length) && (List.zip c sz).all fun p => decide (0 ≤ p.1) && decide (p.1 < p.2)
theorem cok_of {sz c : List Int} (h : cokB sz c = true) : Cok sz c := by
  unfold cokB at h
  rw [Bool.and_eq_true, decide_eq_true_eq, List.all_eq_true] at h
  refine ⟨h.1, fun i x s e1 e2 => ?_⟩
  have := h.2 (x, s) (List.mem_of_getElem? (i := i) (by rw [List.getElem?_zip_eq_some]; exact ⟨e1, e2⟩))
  rw [Bool.and_eq_true, decide_eq_true_eq, decide_eq_true_eq] at this
  exact this
theorem contM_ok {H : Hs} (o : HsOk H) : (∀ c ∈ contM H.sz, Cok H.sz c) ∧ (contM H.sz).length ≤ 8 ∧ 2 ≤ (contM H.sz).length ∧ (contM H.sz).Nodup := by
  have key : ∀ sz : List Int, ((contM sz).all (cokB sz) && decide ((contM sz).length ≤ 8) && decide (2 ≤ (contM sz).length) && decide (contM sz).Nodup) = true → (∀ c ∈ contM sz, Cok sz c) ∧ (contM sz).length ≤ 8 ∧ 2 ≤ (contM sz).length ∧ (contM sz).Nodup := fun sz h => by
    simp only [Bool.and_eq_true, decide_eq_true_eq, List.all_eq_true] at h
    exact ⟨fun c m => cok_of (h.1.1.1 c m), h.1.1.2, h.1.2, h.2⟩
  rcases sz_cases o with e | e | e | e | e | e | e | e | e <;> (rw [e]; exact key _ (by decide +kernel))
def contB : Ss :=
  .cons (.asg (.nm 1) (.lstF (.cons (.tup .nil) .nil))) <|
  .cons (.for_ (.sq (.ix (.var 0) (.c (.int 0)))) (.nm 2) (.cons (.asg (.nm 3) (.lstM .nil)) (.cons (.for_ (.sq (.var 1)) (.nm 4) (.cons (.ex (.bm .extend (.var 3) (.cons (.lc (.rng (.cons (.var 2) .nil)) (.nm 5) (.c (.bl true)) (.bin .add (.var 4) (.tup (.cons (.var 5) .nil)))) .nil))) .nil)) (.cons (.asg (.nm 1) (.var 3)) .nil)))) <|
  .cons (.ret (.b1 .tuple (.var 1))) <|
  .nil
def lawContB : Ss :=
  .cons (.asg (.nm 1) (.lstF (.cons (.tup .nil) .nil))) <|
  .cons (.for_ (.sq (.ix (.var 0) (.c (.int 0)))) (.nm 2) (.cons (.asg (.nm 3) (.lstM .nil)) (.cons (.for_ (.sq (.var 1)) (.nm 4) (.cons (.ex (.bm .extend (.var 3) (.cons (.lc (.rng (.cons (.var 2) .nil)) (.nm 5) (.c (.bl true)) (.bin .add (.var 4) (.tup (.cons (.var 5) .nil)))) .nil))) .nil)) (.cons (.asg (.nm 1) (.var 3)) .nil)))) <|
  .cons (.ret (.var 1)) <|
  .nil
theorem cont_ok {name : Str} (tb : look T name = some ⟨name, 1, 6, contB⟩) {H : Hs} (ok : HsOk H) : callPu (callN T w (k + 1)) name [dHs H] h = .ok (.tup ((contM H.sz).map tD)) h := by
  refine pu_run (f := ⟨name, 1, 6, contB⟩) tb rfl ?_ (fun d m => by rw [List.mem_singleton.mp m]; exact fz_dHs ok)
  show outFrz (evSs (callN T w k) w contB [some (dHs H), none, none, none, none, none] []) = _
  have key := sz_cases ok
  obtain ⟨sz, nd, dd⟩ := H
  clear ok
  dsimp only at key ⊢
  rcases key with rfl | rfl | rfl | rfl | rfl | rfl | rfl | rfl | rfl <;> kernel_rfl
theorem lawCont_ok {name : Str} (tb : look T name = some ⟨name, 1, 6, lawContB⟩) {H : Hs} (ok : HsOk H) : callPu (callN T w (k + 1)) name [dHs H] h = .ok (.lst ((contM H.sz).map tD)) h := by
  refine pu_run (f := ⟨name, 1, 6, lawContB⟩) tb rfl ?_ (fun d m => by rw [List.mem_singleton.mp m]; exact fz_dHs ok)
  show outFrz (evSs (callN T w k) w lawContB [some (dHs H), none, none, none, none, none] []) = _
  have key := sz_cases ok
  obtain ⟨sz, nd, dd⟩ := H
  clear ok
  dsimp only at key ⊢
  rcases key with rfl | rfl | rfl | rfl | rfl | rfl | rfl | rfl | rfl <;> kernel_rfl
end Rx

/-! RyF: houses and sets that are drawn. -/
namespace Rx
open PySem L2
variable {T : List Fn} {w k : Nat} {h h' h1 h2 : Hq} {cl : Cl} {p : Nat}

/-- a pen stands at p -/
def PenOk (p : Nat) (h : Hq) : Prop := ∃ cs at_ st, 0 ≤ at_ ∧ 0 ≤ st ∧ h[p]? = some (penO cs at_ st)
/-- drawn from the pen at p: all else stays, perhaps there is more -/
structure Pn (p : Nat) (h h' : Hq) : Prop where
  pen : PenOk p h'
  len : h.length ≤ h'.length
  keep : ∀ i, i ≠ p → i < h.length → h'[i]? = h[i]?
theorem PenOk.lt (o : PenOk p h) : p < h.length := by
  obtain ⟨_, _, _, _, _, e⟩ := o
  exact (List.getElem?_eq_some_iff.mp e).1
theorem Pn.refl (o : PenOk p h) : Pn p h h := ⟨o, Nat.le_refl _, fun _ _ _ => rfl⟩
theorem Pn.trans (a : Pn p h h1) (b : Pn p h1 h2) : Pn p h h2 := ⟨b.pen, Nat.le_trans a.len b.len, fun i n l => (b.keep i n (Nat.lt_of_lt_of_le l a.len)).trans (a.keep i n l)⟩
theorem Pn.push (o : PenOk p h) (x : Ob) : Pn p h (h ++ [x]) := by
  refine ⟨?_, by simp, fun i _ l => List.getElem?_append_left l⟩
  obtain ⟨cs, a, s, h1, h2, e⟩ := o
  exact ⟨cs, a, s, h1, h2, by rw [List.getElem?_append_left (List.getElem?_eq_some_iff.mp e).1]; exact e⟩
/-- what is laid anew may be written -/
theorem Pn.write (a : Pn p h h1) {q : Nat} (x : Ob) (hq : h.length ≤ q) (hp : p < h.length) : Pn p h (h1.set q x) := by
  refine ⟨?_, by rw [List.length_set]; exact a.len, fun i n l => by rw [List.getElem?_set_ne (by omega)]; exact a.keep i n l⟩
  obtain ⟨cs, b, s, e1, e2, e⟩ := a.pen
  exact ⟨cs, b, s, e1, e2, by rw [List.getElem?_set_ne (by omega)]; exact e⟩
theorem draw_pn (pt : PenT T) (o : PenOk p h) {n : Int} (hn : 0 < n) (hn2 : n < 1073741824) :
    ∃ d h', 0 ≤ d ∧ d < n ∧ Pn p h h' ∧ callN T w (k + 2) "_law_draw" [.ref p, .int n] h = .ok (.int d) h' := by
  obtain ⟨cs, a, s, h1, h2, e⟩ := o
  obtain ⟨d, a', s', d1, d2, a1, s1, q⟩ := draw_ok (w := w) (k := k) pt e h1 h2 hn hn2
  have l := (List.getElem?_eq_some_iff.mp e).1
  exact ⟨d, _, d1, d2, ⟨⟨cs, a', s', a1, s1, List.getElem?_set_self l⟩, by simp, fun i n _ => List.getElem?_set_ne (Ne.symm n)⟩, q⟩
theorem rngI_nat (n : Nat) : rngI 0 (n : Int) = (List.range n).map nat := by
  unfold rngI nat
  rw [show ((n : Int) - 0).toNat = n by omega]
  exact List.map_congr_left fun x _ => by rw [Int.zero_add]
theorem ev_rng {e : E} {ρ : Ev} {n : Nat} (q : evE cl e ρ h = .ok (.int (n : Int)) h1) (l : n ≤ 1000000) : evIt cl (.rng (.cons e .nil)) ρ h = .ok (none, (List.range n).map nat) h1 := by
  have s : small62 (n : Int) = true := by unfold small62; rw [decide_eq_true (by omega), decide_eq_true (by omega)]; rfl
  show (evEs cl (.cons e .nil) ρ h).bind _ = _
  rw [evEs, q, R.bind_ok, evEs, R.bind_ok, R.bind_ok]
  dsimp only
  rw [if_pos s, rngI_nat]
theorem ne_nat (ms : List Nat) : cmpD h .ne (.lst (ms.map nat)) (.lst []) = some (!ms.isEmpty) := by
  have := ne_nilL (ms.map fun n : Nat => (n : Int)) h
  rw [List.map_map] at this
  rw [show ms.map nat = ms.map (D.int ∘ fun n : Nat => (n : Int)) from rfl, this]
  cases ms <;> rfl

/-! ### sizes -/
def sizesB : Ss :=
  .cons (.asg (.nm 1) (.lstF (.cons (.tup (.cons (.c (.int 2)) .nil)) (.cons (.tup (.cons (.c (.int 3)) .nil)) (.cons (.tup (.cons (.c (.int 2)) (.cons (.c (.int 2)) .nil))) (.cons (.tup (.cons (.c (.int 2)) (.cons (.c (.int 2)) .nil))) (.cons (.tup (.cons (.c (.int 2)) (.cons (.c (.int 3)) .nil))) (.cons (.tup (.cons (.c (.int 3)) (.cons (.c (.int 2)) .nil))) (.cons (.tup (.cons (.c (.int 2)) (.cons (.c (.int 2)) (.cons (.c (.int 2)) .nil)))) (.cons (.tup (.cons (.c (.int 4)) .nil)) (.cons (.tup (.cons (.c (.int 2)) (.cons (.c (.int 4)) .nil))) (.cons (.tup (.cons (.c (.int 4)) (.cons (.c (.int 2)) .nil))) .nil)))))))))))) <|
  .cons (.ret (.ix (.var 1) (.call .ef "_law_draw" (.cons (.var 0) (.cons (.c (.int 10)) .nil))))) <|
  .nil
structure SzOk (sz : List Int) : Prop where
  sz0 : 1 ≤ sz.length
  sz1 : sz.length ≤ 3
  sz2 : ∀ s ∈ sz, 2 ≤ s ∧ s ≤ 4
  sz3 : sz.foldl (· * ·) 1 ≤ 8
def szRows : List (List Int) := [[2], [3], [2, 2], [2, 2], [2, 3], [3, 2], [2, 2, 2], [4], [2, 4], [4, 2]]
theorem szRows_ok : ∀ sz ∈ szRows, SzOk sz := by
  have key : ∀ sz ∈ szRows, 1 ≤ sz.length ∧ sz.length ≤ 3 ∧ (∀ s ∈ sz, 2 ≤ s ∧ s ≤ 4) ∧ sz.foldl (· * ·) 1 ≤ 8 := by decide +kernel
  exact fun sz m => let ⟨a, b, c, d⟩ := key sz m; ⟨a, b, c, d⟩
theorem sizes_ok (pt : PenT T) (tb : look T "_law_sizes" = some ⟨"_law_sizes", 1, 2, sizesB⟩) (o : PenOk p h) : ∃ sz h', SzOk sz ∧ Pn p h h' ∧ callN T w (k + 3) "_law_sizes" [.ref p] h = .ok (tD sz) h' := by
  obtain ⟨d, h', d1, d2, pn, q⟩ := draw_pn (w := w) (k := k) pt o (n := 10) (by decide) (by decide)
  have hd : d.toNat < szRows.length := by show d.toNat < 10; omega
  refine ⟨szRows[d.toNat], h', szRows_ok _ (List.getElem_mem hd), pn, ?_⟩
  refine call_rt (f := ⟨"_law_sizes", 1, 2, sizesB⟩) (ρ := [some (.ref p), some (.lst (szRows.map tD))]) tb rfl ?_
  show evSs (callN T w (k + 2)) w sizesB [some (.ref p), none] h = _
  have s1 : evS (callN T w (k + 2)) w (match sizesB with | .cons s _ => s | _ => .pas) [some (.ref p), none] h = .nx [some (.ref p), some (.lst (szRows.map tD))] h := rfl
  have ix : ixD h' (.lst (szRows.map tD)) (.int d) = some (tD szRows[d.toNat]) := ix_lstI d1 (ixM (by simp [hd]))
  refine (seq_nx (ss := .cons (.ret (.ix (.var 1) (.call .ef "_law_draw" (.cons (.var 0) (.cons (.c (.int 10)) .nil))))) .nil) s1).trans ?_
  simp only [evSs, evS, evE, evEs, evT, evTs, evIt, R.bind_ok, R.of_some, Out.of_ok, R.nox, tst, Option.map_some, Option.map, List.getElem?_cons_zero, List.getElem?_cons_succ, List.set_cons_zero, List.set_cons_succ, tru_bl, add_ii, sub_ii, lt_ii, ge_ii, int_i, if_true, if_false, Bool.false_eq_true, Bool.not_true, Bool.not_false, callD, q, ix]

/-! ### steps -/
def stepB : Ss :=
  .cons (.asg (.tp (.cons (.nm 4) (.cons (.nm 5) .nil))) (.tup (.cons (.call .ef "_law_draw" (.cons (.var 0) (.cons (.b1 .len (.var 1)) .nil))) (.cons (.call .ef "_law_draw" (.cons (.var 0) (.cons (.c (.int 6)) .nil))) .nil)))) <|
  .cons (.asg (.nm 3) (.lc (.rng (.cons (.b1 .len (.var 1)) .nil)) (.nm 6) (.and_ (.cmp .ne (.var 6) (.var 4)) (.cmp .eq (.ix (.var 1) (.var 6)) (.ix (.var 1) (.var 4)))) (.var 6))) <|
  .cons (.ite (.and_ (.cmp .lt (.var 5) (.c (.int 2))) (.cmp .ne (.var 3) (.lstF .nil))) (.cons (.ret (.tup (.cons (.ix (.lstF (.cons (.c (.str "copy")) (.cons (.c (.str "swap")) .nil))) (.var 5)) (.cons (.var 4) (.cons (.ix (.var 3) (.call .ef "_law_draw" (.cons (.var 0) (.cons (.b1 .len (.var 3)) .nil)))) .nil))))) .nil) .nil) <|
  .cons (.ite (.cmp .eq (.var 5) (.c (.int 2))) (.cons (.ret (.tup (.cons (.c (.str "add")) (.cons (.var 4) (.cons (.bin .add (.c (.int 1)) (.call .ef "_law_draw" (.cons (.var 0) (.cons (.bin .sub (.ix (.var 1) (.var 4)) (.c (.int 1))) .nil)))) .nil))))) .nil) .nil) <|
  .cons (.ite (.and_ (.cmp .gt (.var 5) (.c (.int 3))) (.cmp .gt (.var 2) (.c (.int 0)))) (.cons (.ret (.tup (.cons (.c (.str "when")) (.cons (.var 4) (.cons (.call .ef "_law_draw" (.cons (.var 0) (.cons (.ix (.var 1) (.var 4)) .nil))) (.cons (.call .ef "_law_step" (.cons (.var 0) (.cons (.var 1) (.cons (.bin .sub (.var 2) (.c (.int 1))) .nil)))) .nil)))))) .nil) .nil) <|
  .cons (.ret (.tup (.cons (.c (.str "set")) (.cons (.var 4) (.cons (.call .ef "_law_draw" (.cons (.var 0) (.cons (.ix (.var 1) (.var 4)) .nil))) .nil))))) <|
  .nil
theorem ev_and {a b : E} {ρ : Ev} {x : Bool} {r : R D} (q : evE cl a ρ h = .ok (.bl x) h1) (q2 : x = true → evE cl b ρ h1 = r) : evE cl (.and_ a b) ρ h = if x then r else .ok (.bl false) h1 := by
  rw [evE, q, R.bind_ok]
  cases x with
  | true => rw [if_pos rfl, ← q2 rfl]; rfl
  | false => rfl
/-- the cells of a cell's size -/
def mates (sz : List Int) (c : Nat) : List Nat := (List.range sz.length).filter fun o => decide (o ≠ c) && decide (sz[o]? = sz[c]?)
theorem mates_mem {sz : List Int} {c e : Nat} (m : e ∈ mates sz c) : e ≠ c ∧ sz[e]? = sz[c]? := by
  have := (List.mem_filter.mp m).2
  rw [Bool.and_eq_true, decide_eq_true_eq, decide_eq_true_eq] at this
  exact this
theorem step_one (pt : PenT T) (tb : look T "_law_step" = some ⟨"_law_step", 3, 7, stepB⟩) {sz : List Int} (so : SzOk sz) {n j : Nat} {h : Hq} (o : PenOk p h)
    (rec : ∀ m, n = m + 1 → ∀ {h : Hq}, PenOk p h → ∃ s h', StpOk sz s ∧ s.dep ≤ m ∧ Pn p h h' ∧ callN T w (j + 2) "_law_step" [.ref p, tD sz, .int (m : Int)] h = .ok (dStp s) h') :
    ∃ s h', StpOk sz s ∧ s.dep ≤ n ∧ Pn p h h' ∧ callN T w (j + 3) "_law_step" [.ref p, tD sz, .int (n : Int)] h = .ok (dStp s) h' := by
  have sz0 := so.sz0
  have sz1 := so.sz1
  obtain ⟨c, h1, c0, c1, pn1, q1⟩ := draw_pn (w := w) (k := j) pt o (n := (sz.length : Int)) (by omega) (by omega)
  obtain ⟨op, h2, o0, o1, pn2, q2⟩ := draw_pn (w := w) (k := j) pt pn1.pen (n := 6) (by decide) (by decide)
  have pn := pn1.trans pn2
  obtain ⟨cc, rfl⟩ : ∃ cc : Nat, c = (cc : Int) := ⟨c.toNat, (Int.toNat_of_nonneg c0).symm⟩
  have hc : cc < sz.length := by omega
  obtain ⟨z, ez⟩ : ∃ z, sz[cc]? = some z := ⟨sz[cc], by simp [hc]⟩
  obtain ⟨z2, z4⟩ := so.sz2 z (List.mem_of_getElem? ez)
  have ln : ∀ hh : Hq, b1D hh .len (tD sz) = .ok (.int (sz.length : Int)) hh := fun hh => by show R.ok (D.int ((sz.map D.int).length : Nat)) hh = _; rw [List.length_map]
  have ixs : ∀ (hh : Hq) {i : Nat} {x : Int}, sz[i]? = some x → ixD hh (tD sz) (nat i) = some (.int x) := fun hh {i x} e => ix_tup (ixM e)
  have ixc : ∀ hh : Hq, ixD hh (tD sz) (.int (cc : Int)) = some (.int z) := fun hh => ixs hh ez
  have s1 : evS (callN T w (j + 2)) w (.asg (.tp (.cons (.nm 4) (.cons (.nm 5) .nil))) (.tup (.cons (.call .ef "_law_draw" (.cons (.var 0) (.cons (.b1 .len (.var 1)) .nil))) (.cons (.call .ef "_law_draw" (.cons (.var 0) (.cons (.c (.int 6)) .nil))) .nil)))) [some (.ref p), some (tD sz), some (.int (n : Int)), none, none, none, none] h =
      .nx [some (.ref p), some (tD sz), some (.int (n : Int)), none, some (nat cc), some (.int op), none] h2 := by
    simp only [evSs, evS, evE, evEs, evT, evTs, evIt, R.bind_ok, R.of_some, Out.of_ok, R.nox, tst, Option.map_some, Option.map, List.getElem?_cons_zero, List.getElem?_cons_succ, List.set_cons_zero, List.set_cons_succ, tru_bl, add_ii, sub_ii, lt_ii, ge_ii, int_i, if_true, if_false, Bool.false_eq_true, Bool.not_true, Bool.not_false, callD, ln, q1, q2]; rfl
  have s2 : evS (callN T w (j + 2)) w (.asg (.nm 3) (.lc (.rng (.cons (.b1 .len (.var 1)) .nil)) (.nm 6) (.and_ (.cmp .ne (.var 6) (.var 4)) (.cmp .eq (.ix (.var 1) (.var 6)) (.ix (.var 1) (.var 4)))) (.var 6)))
      [some (.ref p), some (tD sz), some (.int (n : Int)), none, some (nat cc), some (.int op), none] h2 = .nx [some (.ref p), some (tD sz), some (.int (n : Int)), some (.lst ((mates sz cc).map nat)), some (nat cc), some (.int op), none] h2 := by
    refine ev_asg (ev_lc (ev_rng (n := sz.length) (h1 := h2) (by simp only [evSs, evS, evE, evEs, evT, evTs, evIt, R.bind_ok, R.of_some, Out.of_ok, R.nox, tst, Option.map_some, Option.map, List.getElem?_cons_zero, List.getElem?_cons_succ, List.set_cons_zero, List.set_cons_succ, tru_bl, add_ii, sub_ii, lt_ii, ge_ii, int_i, if_true, if_false, Bool.false_eq_true, Bool.not_true, Bool.not_false, ln]) (by omega)) (by rw [List.length_map, List.length_range]; exact fits_small (by omega)) ?_)
    refine lcL_map nat (fun o => decide (o ≠ cc) && decide (sz[o]? = sz[cc]?)) nat h2 _ fun i m => ?_
    have hi : i < sz.length := List.mem_range.mp m
    have ei : sz[i]? = some sz[i] := by simp [hi]
    refine ⟨[some (.ref p), some (tD sz), some (.int (n : Int)), none, some (nat cc), some (.int op), some (nat i)], rfl, ?_, fun _ => rfl⟩
    have e1 : cmpD h2 .ne (nat i) (nat cc) = some (!decide (i = cc)) := by
      rw [nat, nat, ne_ii]
      congr 2
      rw [decide_eq_decide]; omega
    rw [tst, ev_and (x := !decide (i = cc)) (h1 := h2) (r := .ok (.bl (decide (sz[i] = z))) h2) (by simp only [evSs, evS, evE, evEs, evT, evTs, evIt, R.bind_ok, R.of_some, Out.of_ok, R.nox, tst, Option.map_some, Option.map, List.getElem?_cons_zero, List.getElem?_cons_succ, List.set_cons_zero, List.set_cons_succ, tru_bl, add_ii, sub_ii, lt_ii, ge_ii, int_i, if_true, if_false, Bool.false_eq_true, Bool.not_true, Bool.not_false, e1]) (fun _ => by simp only [evSs, evS, evE, evEs, evT, evTs, evIt, R.bind_ok, R.of_some, Out.of_ok, R.nox, tst, Option.map_some, Option.map, List.getElem?_cons_zero, List.getElem?_cons_succ, List.set_cons_zero, List.set_cons_succ, tru_bl, add_ii, sub_ii, lt_ii, ge_ii, int_i, if_true, if_false, Bool.false_eq_true, Bool.not_true, Bool.not_false, ixs h2 ei, ixs h2 ez, eq_ii])]
    rw [ei, ez]
    by_cases q : i = cc
    · simp [q, tru_bl]
    · by_cases q' : sz[i] = z <;> simp [q, q', tru_bl]
  have c1 : tst (evE (callN T w (j + 2)) (.and_ (.cmp .lt (.var 5) (.c (.int 2))) (.cmp .ne (.var 3) (.lstF .nil))) [some (.ref p), some (tD sz), some (.int (n : Int)), some (.lst ((mates sz cc).map nat)), some (nat cc), some (.int op), none] h2) = .ok (decide (op < 2) && !(mates sz cc).isEmpty) h2 := by
    rw [tst, ev_and (x := decide (op < 2)) (h1 := h2) (r := .ok (.bl (!(mates sz cc).isEmpty)) h2) (by simp only [evSs, evS, evE, evEs, evT, evTs, evIt, R.bind_ok, R.of_some, Out.of_ok, R.nox, tst, Option.map_some, Option.map, List.getElem?_cons_zero, List.getElem?_cons_succ, List.set_cons_zero, List.set_cons_succ, tru_bl, add_ii, sub_ii, lt_ii, ge_ii, int_i, if_true, if_false, Bool.false_eq_true, Bool.not_true, Bool.not_false]) (fun _ => by simp only [evSs, evS, evE, evEs, evT, evTs, evIt, R.bind_ok, R.of_some, Out.of_ok, R.nox, tst, Option.map_some, Option.map, List.getElem?_cons_zero, List.getElem?_cons_succ, List.set_cons_zero, List.set_cons_succ, tru_bl, add_ii, sub_ii, lt_ii, ge_ii, int_i, if_true, if_false, Bool.false_eq_true, Bool.not_true, Bool.not_false, ne_nat])]
    cases decide (op < 2) <;> rfl
  have c2 : tst (evE (callN T w (j + 2)) (.cmp .eq (.var 5) (.c (.int 2))) [some (.ref p), some (tD sz), some (.int (n : Int)), some (.lst ((mates sz cc).map nat)), some (nat cc), some (.int op), none] h2) = .ok (decide (op = 2)) h2 := by simp only [evSs, evS, evE, evEs, evT, evTs, evIt, R.bind_ok, R.of_some, Out.of_ok, R.nox, tst, Option.map_some, Option.map, List.getElem?_cons_zero, List.getElem?_cons_succ, List.set_cons_zero, List.set_cons_succ, tru_bl, add_ii, sub_ii, lt_ii, ge_ii, int_i, if_true, if_false, Bool.false_eq_true, Bool.not_true, Bool.not_false, eq_ii]
  have c3 : tst (evE (callN T w (j + 2)) (.and_ (.cmp .gt (.var 5) (.c (.int 3))) (.cmp .gt (.var 2) (.c (.int 0)))) [some (.ref p), some (tD sz), some (.int (n : Int)), some (.lst ((mates sz cc).map nat)), some (nat cc), some (.int op), none] h2) = .ok (decide (3 < op) && decide (0 < (n : Int))) h2 := by
    rw [tst, ev_and (x := decide (3 < op)) (h1 := h2) (r := .ok (.bl (decide (0 < (n : Int)))) h2) (by simp only [evSs, evS, evE, evEs, evT, evTs, evIt, R.bind_ok, R.of_some, Out.of_ok, R.nox, tst, Option.map_some, Option.map, List.getElem?_cons_zero, List.getElem?_cons_succ, List.set_cons_zero, List.set_cons_succ, tru_bl, add_ii, sub_ii, lt_ii, ge_ii, int_i, if_true, if_false, Bool.false_eq_true, Bool.not_true, Bool.not_false, gt_ii]) (fun _ => by simp only [evSs, evS, evE, evEs, evT, evTs, evIt, R.bind_ok, R.of_some, Out.of_ok, R.nox, tst, Option.map_some, Option.map, List.getElem?_cons_zero, List.getElem?_cons_succ, List.set_cons_zero, List.set_cons_succ, tru_bl, add_ii, sub_ii, lt_ii, ge_ii, int_i, if_true, if_false, Bool.false_eq_true, Bool.not_true, Bool.not_false, gt_ii])]
    cases decide (3 < op) <;> rfl
  have fin : ∀ {s : Stp} {h' : Hq}, evSs (callN T w (j + 2)) w stepB [some (.ref p), some (tD sz), some (.int (n : Int)), none, none, none, none] h = .rt (dStp s) [some (.ref p), some (tD sz), some (.int (n : Int)), some (.lst ((mates sz cc).map nat)), some (nat cc), some (.int op), none] h' → callN T w (j + 3) "_law_step" [.ref p, tD sz, .int (n : Int)] h = .ok (dStp s) h' :=
    fun r => call_rt (f := ⟨"_law_step", 3, 7, stepB⟩) tb rfl r
  rw [stepB, seq_nx s1, seq_nx s2] at fin
  by_cases hA : op < 2 ∧ (mates sz cc).isEmpty = false
  · have ne : (mates sz cc).length ≠ 0 := fun z => by have := List.length_eq_zero_iff.mp z; rw [this] at hA; cases hA.2
    obtain ⟨d, h3, d0, d1, pn3, q3⟩ := draw_pn (w := w) (k := j) pt pn2.pen (n := ((mates sz cc).length : Int)) (by omega) (by
      have := List.length_filter_le (fun o => decide (o ≠ cc) && decide (sz[o]? = sz[cc]?)) (List.range sz.length)
      rw [List.length_range] at this
      have : (mates sz cc).length ≤ 3 := by unfold mates; omega
      omega)
    have hd : d.toNat < (mates sz cc).length := by omega
    obtain ⟨m1, m2⟩ := mates_mem (List.getElem_mem hd)
    have ixm : ixD h3 (.lst ((mates sz cc).map nat)) (.int d) = some (nat (mates sz cc)[d.toNat]) := ix_lstI d0 (ixM (by simp [hd]))
    have lm : ∀ hh : Hq, b1D hh .len (.lst ((mates sz cc).map nat)) = .ok (.int ((mates sz cc).length : Int)) hh := fun hh => by rw [len_l, List.length_map]
    have word : ∀ hh : Hq, ixD hh (.lst [.str "copy", .str "swap"]) (.int op) = some (.str (if op = 0 then "copy" else "swap")) := fun hh => by
      have : op = 0 ∨ op = 1 := by omega
      rcases this with rfl | rfl <;> rfl
    refine ⟨if op = 0 then .cpy cc (mates sz cc)[d.toNat] else .swp cc (mates sz cc)[d.toNat], h3, ?_, ?_, pn.trans pn3, fin ?_⟩
    · split <;> exact ⟨z, ez, m2.trans ez, Ne.symm m1⟩
    · split <;> exact Nat.zero_le _
    · refine seq_rt ((ev_if c1).trans ?_)
      rw [hA.2, decide_eq_true hA.1]
      simp only [evSs, evS, evE, evEs, evT, evTs, evIt, R.bind_ok, R.of_some, Out.of_ok, R.nox, tst, Option.map_some, Option.map, List.getElem?_cons_zero, List.getElem?_cons_succ, List.set_cons_zero, List.set_cons_succ, tru_bl, add_ii, sub_ii, lt_ii, ge_ii, int_i, if_true, if_false, Bool.false_eq_true, Bool.not_true, Bool.not_false, callD, lm, q3, ixm, word, Bool.and_self]
      split <;> rfl
  · have n1 : evS (callN T w (j + 2)) w (.ite (.and_ (.cmp .lt (.var 5) (.c (.int 2))) (.cmp .ne (.var 3) (.lstF .nil))) (.cons (.ret (.tup (.cons (.ix (.lstF (.cons (.c (.str "copy")) (.cons (.c (.str "swap")) .nil))) (.var 5)) (.cons (.var 4) (.cons (.ix (.var 3) (.call .ef "_law_draw" (.cons (.var 0) (.cons (.b1 .len (.var 3)) .nil)))) .nil))))) .nil) .nil)
        [some (.ref p), some (tD sz), some (.int (n : Int)), some (.lst ((mates sz cc).map nat)), some (nat cc), some (.int op), none] h2 = .nx [some (.ref p), some (tD sz), some (.int (n : Int)), some (.lst ((mates sz cc).map nat)), some (nat cc), some (.int op), none] h2 := by
      refine (ev_if c1).trans ?_
      have : (decide (op < 2) && !(mates sz cc).isEmpty) = false := by
        cases e : (mates sz cc).isEmpty with
        | true => simp
        | false =>
          have : ¬ op < 2 := fun z => hA ⟨z, e⟩
          simp [this]
      rw [this]; rfl
    rw [seq_nx n1] at fin
    by_cases hB : op = 2
    · obtain ⟨d, h3, d0, d1, pn3, q3⟩ := draw_pn (w := w) (k := j) pt pn2.pen (n := z - 1) (by omega) (by omega)
      refine ⟨.add cc (1 + d), h3, ⟨z, ez, by omega, by omega⟩, Nat.zero_le _, pn.trans pn3, fin ?_⟩
      · refine seq_rt ((ev_if c2).trans ?_)
        rw [decide_eq_true hB]
        simp only [evSs, evS, evE, evEs, evT, evTs, evIt, R.bind_ok, R.of_some, Out.of_ok, R.nox, tst, Option.map_some, Option.map, List.getElem?_cons_zero, List.getElem?_cons_succ, List.set_cons_zero, List.set_cons_succ, tru_bl, add_ii, sub_ii, lt_ii, ge_ii, int_i, if_true, if_false, Bool.false_eq_true, Bool.not_true, Bool.not_false, callD, ixs h2 ez, q3]
        rfl
    · have n2 : evS (callN T w (j + 2)) w (.ite (.cmp .eq (.var 5) (.c (.int 2))) (.cons (.ret (.tup (.cons (.c (.str "add")) (.cons (.var 4) (.cons (.bin .add (.c (.int 1)) (.call .ef "_law_draw" (.cons (.var 0) (.cons (.bin .sub (.ix (.var 1) (.var 4)) (.c (.int 1))) .nil)))) .nil))))) .nil) .nil)
          [some (.ref p), some (tD sz), some (.int (n : Int)), some (.lst ((mates sz cc).map nat)), some (nat cc), some (.int op), none] h2 = .nx [some (.ref p), some (tD sz), some (.int (n : Int)), some (.lst ((mates sz cc).map nat)), some (nat cc), some (.int op), none] h2 := by
        refine (ev_if c2).trans ?_
        rw [decide_eq_false hB]; rfl
      rw [seq_nx n2] at fin
      obtain ⟨d, h3, d0, d1, pn3, q3⟩ := draw_pn (w := w) (k := j) pt pn2.pen (n := z) (by omega) (by omega)
      by_cases hC : 3 < op ∧ 0 < (n : Int)
      · obtain ⟨m, rfl⟩ : ∃ m, n = m + 1 := ⟨n - 1, by omega⟩
        obtain ⟨s, h4, r1, r2, r3, r4⟩ := rec m rfl (pn.trans pn3).pen
        have sub1 : ((m + 1 : Nat) : Int) - 1 = (m : Int) := by omega
        refine ⟨.whn cc d s, h4, ⟨⟨z, ez, d0, d1⟩, r1⟩, by show s.dep + 1 ≤ m + 1; omega, (pn.trans pn3).trans r3, fin ?_⟩
        · refine seq_rt ((ev_if c3).trans ?_)
          rw [decide_eq_true hC.1, decide_eq_true hC.2]
          simp only [evSs, evS, evE, evEs, evT, evTs, evIt, R.bind_ok, R.of_some, Out.of_ok, R.nox, tst, Option.map_some, Option.map, List.getElem?_cons_zero, List.getElem?_cons_succ, List.set_cons_zero, List.set_cons_succ, tru_bl, add_ii, sub_ii, lt_ii, ge_ii, int_i, if_true, if_false, Bool.false_eq_true, Bool.not_true, Bool.not_false, callD, ixs h2 ez, q3, sub1, r4, Bool.and_self]
          rfl
      · have n3 : evS (callN T w (j + 2)) w (.ite (.and_ (.cmp .gt (.var 5) (.c (.int 3))) (.cmp .gt (.var 2) (.c (.int 0)))) (.cons (.ret (.tup (.cons (.c (.str "when")) (.cons (.var 4) (.cons (.call .ef "_law_draw" (.cons (.var 0) (.cons (.ix (.var 1) (.var 4)) .nil))) (.cons (.call .ef "_law_step" (.cons (.var 0) (.cons (.var 1) (.cons (.bin .sub (.var 2) (.c (.int 1))) .nil)))) .nil)))))) .nil) .nil)
            [some (.ref p), some (tD sz), some (.int (n : Int)), some (.lst ((mates sz cc).map nat)), some (nat cc), some (.int op), none] h2 = .nx [some (.ref p), some (tD sz), some (.int (n : Int)), some (.lst ((mates sz cc).map nat)), some (nat cc), some (.int op), none] h2 := by
          refine (ev_if c3).trans ?_
          have : (decide (3 < op) && decide (0 < (n : Int))) = false := by
            by_cases q : 3 < op
            · have : ¬ 0 < (n : Int) := fun z => hC ⟨q, z⟩
              rw [decide_eq_false this, Bool.and_false]
            · rw [decide_eq_false q]; rfl
          rw [this]; rfl
        rw [seq_nx n3] at fin
        refine ⟨.set cc d, h3, ⟨z, ez, d0, d1⟩, Nat.zero_le _, pn.trans pn3, fin ?_⟩
        · refine seq_rt ?_
          simp only [evSs, evS, evE, evEs, evT, evTs, evIt, R.bind_ok, R.of_some, Out.of_ok, R.nox, tst, Option.map_some, Option.map, List.getElem?_cons_zero, List.getElem?_cons_succ, List.set_cons_zero, List.set_cons_succ, tru_bl, add_ii, sub_ii, lt_ii, ge_ii, int_i, if_true, if_false, Bool.false_eq_true, Bool.not_true, Bool.not_false, callD, ixs h2 ez, q3]
          rfl
theorem step_ok (pt : PenT T) (tb : look T "_law_step" = some ⟨"_law_step", 3, 7, stepB⟩) {sz : List Int} (so : SzOk sz) : ∀ (n : Nat) {j : Nat}, n ≤ j → ∀ {h : Hq}, PenOk p h →
    ∃ s h', StpOk sz s ∧ s.dep ≤ n ∧ Pn p h h' ∧ callN T w (j + 3) "_law_step" [.ref p, tD sz, .int (n : Int)] h = .ok (dStp s) h'
  | 0, j, _, h, o => step_one pt tb so o fun m e => absurd e (by omega)
  | n + 1, j, hj, h, o => step_one pt tb so o fun m e {h} o => by
    obtain rfl : m = n := by omega
    obtain ⟨j, rfl⟩ : ∃ i, j = i + 1 := ⟨j - 1, by omega⟩
    exact step_ok pt tb so m (j := j) (by omega) o
end Rx

/-! RyG: drawn deeds, nodes, houses, sets. -/
namespace Rx
open PySem L2
variable {T : List Fn} {w k : Nat} {h h' h1 h2 : Hq} {cl : Cl} {p : Nat}

theorem PenOk.push (o : PenOk p h) (x : Ob) : PenOk p (h ++ [x]) := (Pn.push o x).pen
theorem last_get (h : Hq) (x : Ob) : (h ++ [x])[h.length]? = some x := by simp
/-- what is laid anew keeps standing while others are drawn -/
theorem Pn.got (a : Pn p h h1) {q : Nat} {x : Ob} (e : h[q]? = some x) (n : q ≠ p) : h1[q]? = some x := (a.keep q n (List.getElem?_eq_some_iff.mp e).1).trans e
theorem set_got {q : Nat} {x y : Ob} (e : h[q]? = some x) : (h.set q y)[q]? = some y := List.getElem?_set_self (List.getElem?_eq_some_iff.mp e).1
/-- a row that grows at q, numbers drawn on the way -/
theorem grow_loop {asg : D → Ev → Hq → R Ev} {b : Ev → Hq → Out} {α : Type} (en : α → D) (ok : Nat → α → Prop) {h0 : Hq} {q : Nat} (hq : h0.length ≤ q) (hp : p < h0.length) (E : Ev → Prop) (ds : List D) {ρ : Ev} {h : Hq} (e0 : E ρ) (pn : Pn p h0 h) (g0 : h[q]? = some (.lst []))
    (st : ∀ (j : Nat) d ρ h, ds[j]? = some d → E ρ → Pn p h0 h → (∀ xs, h[q]? = some (.lst xs) → xs.length = j → ∃ a ρ1 h1 ρ2 h2, asg d ρ h = .ok ρ1 h1 ∧ b ρ1 h1 = .nx ρ2 (h2.set q (.lst (xs ++ [en a]))) ∧ E ρ2 ∧ Pn p h h2 ∧ ok j a)) :
    ∃ (as : List α) (ρ' : Ev) (h' : Hq), forL none asg b ds ρ h = .nx ρ' h' ∧ E ρ' ∧ Pn p h0 h' ∧ h'[q]? = some (.lst (as.map en)) ∧ as.length = ds.length ∧ ∀ (j : Nat) a, as[j]? = some a → ok j a := by
  obtain ⟨ρ', h', e1, e2, e3, as, e4, e5, e6⟩ := forL_inv (asg := asg) (b := b) (fun j ρ h => E ρ ∧ Pn p h0 h ∧ ∃ as : List α, h[q]? = some (.lst (as.map en)) ∧ as.length = j ∧ ∀ (i : Nat) a, as[i]? = some a → ok i a) ds 0 ρ h ⟨e0, pn, [], g0, rfl, fun i a e => by simp at e⟩
    (fun j d ρ h hj ⟨q1, q2, as, q3, q4, q5⟩ => by
      rw [Nat.zero_add] at q4
      obtain ⟨a, ρ1, h1, ρ2, h2, z1, z2, z3, z4, z5⟩ := st j d ρ h hj q1 q2 _ q3 (by rw [List.length_map]; exact q4)
      have g2 : h2[q]? = some (.lst (as.map en)) := z4.got q3 (by omega)
      refine ⟨ρ1, h1, ρ2, _, z1, .inl z2, z3, (q2.trans z4).write _ hq hp, as ++ [a], ?_, by simp [q4], fun i b hb => ?_⟩
      · rw [set_got g2]; simp
      · by_cases hi : i < as.length
        · rw [List.getElem?_append_left hi] at hb; exact q5 i b hb
        · have : i = as.length := by
            have := (List.getElem?_eq_some_iff.mp hb).1
            simp at this; omega
          subst this
          simp at hb
          rw [← hb, q4]; exact z5)
  exact ⟨as, ρ', h', e1, e2, e3, e4, by omega, e6⟩

theorem seq_one {s : S} {ρ ρ1 : Ev} {h h1 : Hq} (e : evS cl w s ρ h = .nx ρ1 h1) : evSs cl w (.cons s .nil) ρ h = .nx ρ1 h1 := by rw [evSs, e]; rfl
theorem ev_b1 {o : B1} {a : E} {ρ : Ev} {d v : D} (e : evE cl a ρ h = .ok d h1) (q : b1D h1 o d = .ok v h2) : evE cl (.b1 o a) ρ h = .ok v h2 := by rw [evE, e, R.bind_ok, q]
theorem ev_append {i q : Nat} {e : E} {ρ : Ev} {xs ys : List D} {d : D} (hi : ρ[i]? = some (some (.ref q))) (g : h[q]? = some (.lst ys)) (ev : evE cl e ρ h = .ok d h2) (g2 : h2[q]? = some (.lst xs)) (l : xs.length < sizeLine) :
    evS cl w (.ex (.bm .append (.var i) (.cons e .nil))) ρ h = .nx ρ (h2.set q (.lst (xs ++ [d]))) := by
  have b1 : bmOk h .append (.ref q) = true := by show (lstAt h (.ref q)).isSome = true; rw [lstAt_r g]; rfl
  obtain ⟨-, b2⟩ := append_r (x := d) g2 l
  refine ev_ex (d := .non) ?_
  rw [evE, evE, hi]
  dsimp only
  rw [R.bind_ok, if_pos b1, evEs, ev, R.bind_ok, evEs, R.bind_ok, R.bind_ok, b2]
/-! ### deeds -/
def deedsB : Ss :=
  .cons (.asg (.nm 4) (.lstM .nil)) <|
  .cons (.for_ (.rng (.cons (.var 2) .nil)) (.nm 5) (.cons (.asg (.nm 6) (.call .ef "_law_draw" (.cons (.var 0) (.cons (.bin .add (.var 3) (.c (.int 1))) .nil)))) (.cons (.ex (.bm .append (.var 4) (.cons (.b1 .tuple (.lc (.rng (.cons (.var 6) .nil)) (.nm 7) (.c (.bl true)) (.call .ef "_law_step" (.cons (.var 0) (.cons (.var 1) (.cons (.call .ef "_law_draw" (.cons (.var 0) (.cons (.c (.int 3)) .nil))) .nil)))))) .nil))) .nil))) <|
  .cons (.ret (.b1 .tuple (.var 4))) <|
  .nil
structure DrawT (T : List Fn) : Prop where
  pt : PenT T
  step : look T "_law_step" = some ⟨"_law_step", 3, 7, stepB⟩
  deeds : look T "_law_deeds" = some ⟨"_law_deeds", 4, 8, deedsB⟩
theorem map_of {α : Type} {en : α → D} {ok : α → Prop} : ∀ {vs : List D}, (∀ v ∈ vs, ∃ a, v = en a ∧ ok a) → ∃ as : List α, vs = as.map en ∧ ∀ a ∈ as, ok a
  | [], _ => ⟨[], rfl, fun a m => nomatch m⟩
  | v :: vs, p => by
    obtain ⟨a, e, o⟩ := p v (List.mem_cons_self ..)
    obtain ⟨as, e2, o2⟩ := map_of fun x m => p x (List.mem_cons_of_mem _ m)
    refine ⟨a :: as, by rw [e, e2]; rfl, fun b m => ?_⟩
    rcases List.mem_cons.mp m with rfl | m
    · exact o
    · exact o2 b m
theorem deeds_ok (dt : DrawT T) {sz : List Int} (so : SzOk sz) {many steps : Nat} (hm : many ≤ 1000) (hs : steps ≤ 1000) (o : PenOk p h) :
    ∃ (ds : List (List Stp)) (h' : Hq), ds.length = many ∧ (∀ d ∈ ds, d.length ≤ steps ∧ ∀ s ∈ d, StpOk sz s ∧ s.dep ≤ 2) ∧ Pn p h h' ∧ callN T w (k + 6) "_law_deeds" [.ref p, tD sz, .int (many : Int), .int (steps : Int)] h = .ok (.tup (ds.map dDd)) h' := by
  have hl := o.lt
  have lp := grow_loop (p := p) (asg := fun d ρ h => evT (callN T w (k + 5)) (.nm 5) d ρ h)
    (b := fun ρ h => evSs (callN T w (k + 5)) w (.cons (.asg (.nm 6) (.call .ef "_law_draw" (.cons (.var 0) (.cons (.bin .add (.var 3) (.c (.int 1))) .nil)))) (.cons (.ex (.bm .append (.var 4) (.cons (.b1 .tuple (.lc (.rng (.cons (.var 6) .nil)) (.nm 7) (.c (.bl true)) (.call .ef "_law_step" (.cons (.var 0) (.cons (.var 1) (.cons (.call .ef "_law_draw" (.cons (.var 0) (.cons (.c (.int 3)) .nil))) .nil)))))) .nil))) .nil)) ρ h)
    dDd (fun _ d => d.length ≤ steps ∧ ∀ s ∈ d, StpOk sz s ∧ s.dep ≤ 2) (h0 := h) (q := h.length) (Nat.le_refl _) hl
    (fun ρ => ∃ x5 x6 x7, ρ = [some (.ref p), some (tD sz), some (.int (many : Int)), some (.int (steps : Int)), some (.ref h.length), x5, x6, x7])
    ((List.range many).map nat) (ρ := [some (.ref p), some (tD sz), some (.int (many : Int)), some (.int (steps : Int)), some (.ref h.length), none, none, none]) (h := h ++ [.lst []]) ⟨_, _, _, rfl⟩ (Pn.push o _) (last_get h _)
    (fun j d ρ hh hj => by
      rintro ⟨x5, x6, x7, rfl⟩ pn xs hx hxl
      have hj' : j < many := by have := (List.getElem?_eq_some_iff.mp hj).1; simpa using this
      obtain ⟨f, h1, f0, f1, pn1, q1⟩ := draw_pn (w := w) (k := k + 3) dt.pt pn.pen (n := (steps : Int) + 1) (by omega) (by omega)
      obtain ⟨ff, rfl⟩ : ∃ ff : Nat, f = (ff : Int) := ⟨f.toNat, (Int.toNat_of_nonneg f0).symm⟩
      obtain ⟨vs, h2, e2, p2, l2, v2⟩ := lcL_all (asg := fun dd hq => evT (callN T w (k + 5)) (.nm 7) dd (wipeE [some (.ref p), some (tD sz), some (.int (many : Int)), some (.int (steps : Int)), some (.ref h.length), some d, some (nat ff), x7] [7]) hq)
        (cond := fun ρ hq => tst (evE (callN T w (k + 5)) (.c (.bl true)) ρ hq)) (x := fun ρ hq => evE (callN T w (k + 5)) (.call .ef "_law_step" (.cons (.var 0) (.cons (.var 1) (.cons (.call .ef "_law_draw" (.cons (.var 0) (.cons (.c (.int 3)) .nil))) .nil)))) ρ hq)
        (Pn p hh) (fun _ v => ∃ s, v = dStp s ∧ StpOk sz s ∧ s.dep ≤ 2) ((List.range ff).map nat) h1 pn1 (fun dd _ hq pq => by
          obtain ⟨g, h3, g0, g1, pn3, q3⟩ := draw_pn (w := w) (k := k + 3) dt.pt pq.pen (n := 3) (by decide) (by decide)
          obtain ⟨gg, rfl⟩ : ∃ gg : Nat, g = (gg : Int) := ⟨g.toNat, (Int.toNat_of_nonneg g0).symm⟩
          obtain ⟨s, h4, s1, s2, s3, s4⟩ := step_ok (w := w) dt.pt dt.step so gg (j := k + 2) (by omega) pn3.pen
          refine ⟨[some (.ref p), some (tD sz), some (.int (many : Int)), some (.int (steps : Int)), some (.ref h.length), some d, some (nat ff), some dd], hq, hq, dStp s, h4, rfl, rfl, ?_, ⟨s, rfl, s1, by omega⟩, (pq.trans pn3).trans s3⟩
          simp only [evSs, evS, evE, evEs, evT, evTs, evIt, R.bind_ok, R.of_some, Out.of_ok, R.nox, tst, Option.map_some, Option.map, List.getElem?_cons_zero, List.getElem?_cons_succ, List.set_cons_zero, List.set_cons_succ, tru_bl, add_ii, sub_ii, lt_ii, ge_ii, int_i, if_true, if_false, Bool.false_eq_true, Bool.not_true, Bool.not_false, callD, q3, s4])
      obtain ⟨as, ea, oa⟩ := map_of (en := dStp) (ok := fun s => StpOk sz s ∧ s.dep ≤ 2) (vs := vs) fun v m => by
        obtain ⟨i, hi⟩ := List.mem_iff_getElem?.mp m
        have : i < ((List.range ff).map nat).length := by rw [← l2]; exact (List.getElem?_eq_some_iff.mp hi).1
        exact v2 i _ v (List.getElem?_eq_getElem this) hi
      have la : as.length = ff := by
        have := l2; rw [ea, List.length_map, List.length_map, List.length_range] at this; exact this
      have hx2 : h2[h.length]? = some (.lst xs) := p2.got hx (by omega)
      have hsm : xs.length < sizeLine := small_size (by omega)
      refine ⟨as, [some (.ref p), some (tD sz), some (.int (many : Int)), some (.int (steps : Int)), some (.ref h.length), some d, x6, x7], hh, [some (.ref p), some (tD sz), some (.int (many : Int)), some (.int (steps : Int)), some (.ref h.length), some d, some (nat ff), x7], h2, rfl, ?_, ⟨_, _, _, rfl⟩, p2, by omega, oa⟩
      have r1 : evS (callN T w (k + 5)) w (.asg (.nm 6) (.call .ef "_law_draw" (.cons (.var 0) (.cons (.bin .add (.var 3) (.c (.int 1))) .nil)))) [some (.ref p), some (tD sz), some (.int (many : Int)), some (.int (steps : Int)), some (.ref h.length), some d, x6, x7] hh =
          .nx [some (.ref p), some (tD sz), some (.int (many : Int)), some (.int (steps : Int)), some (.ref h.length), some d, some (nat ff), x7] h1 := by
        simp only [evSs, evS, evE, evEs, evT, evTs, evIt, R.bind_ok, R.of_some, Out.of_ok, R.nox, tst, Option.map_some, Option.map, List.getElem?_cons_zero, List.getElem?_cons_succ, List.set_cons_zero, List.set_cons_succ, tru_bl, add_ii, sub_ii, lt_ii, ge_ii, int_i, if_true, if_false, Bool.false_eq_true, Bool.not_true, Bool.not_false, callD, q1]; rfl
      have r2 : evE (callN T w (k + 5)) (.lc (.rng (.cons (.var 6) .nil)) (.nm 7) (.c (.bl true)) (.call .ef "_law_step" (.cons (.var 0) (.cons (.var 1) (.cons (.call .ef "_law_draw" (.cons (.var 0) (.cons (.c (.int 3)) .nil))) .nil)))))
          [some (.ref p), some (tD sz), some (.int (many : Int)), some (.int (steps : Int)), some (.ref h.length), some d, some (nat ff), x7] h1 = .ok (.lst (as.map dStp)) h2 := by
        rw [← ea]
        exact ev_lc (ev_rng (n := ff) (h1 := h1) rfl (by omega)) (by rw [List.length_map, List.length_range]; exact fits_small (by omega)) e2
      exact (seq_nx r1).trans (seq_one (ev_append rfl (pn1.got hx (by omega)) (ev_b1 r2 (tuple_l _)) hx2 hsm)))
  obtain ⟨as, ρ', h', e1, ⟨x5, x6, x7, rfl⟩, e3, e4, e5, e6⟩ := lp
  refine ⟨as, h', by simpa using e5, fun d m => ?_, e3, ?_⟩
  · obtain ⟨i, hi⟩ := List.mem_iff_getElem?.mp m
    exact e6 i d hi
  · refine call_rt (f := ⟨"_law_deeds", 4, 8, deedsB⟩) (ρ := [some (.ref p), some (tD sz), some (.int (many : Int)), some (.int (steps : Int)), some (.ref h.length), x5, x6, x7]) dt.deeds rfl ?_
    show evSs (callN T w (k + 5)) w deedsB [some (.ref p), some (tD sz), some (.int (many : Int)), some (.int (steps : Int)), none, none, none, none] h = _
    have s1 : evS (callN T w (k + 5)) w (.asg (.nm 4) (.lstM .nil)) [some (.ref p), some (tD sz), some (.int (many : Int)), some (.int (steps : Int)), none, none, none, none] h = .nx [some (.ref p), some (tD sz), some (.int (many : Int)), some (.int (steps : Int)), some (.ref h.length), none, none, none] (h ++ [.lst []]) := rfl
    have s2 := ev_for (w := w) (ev_rng (cl := callN T w (k + 5)) (e := .var 2) (ρ := [some (.ref p), some (tD sz), some (.int (many : Int)), some (.int (steps : Int)), some (.ref h.length), none, none, none]) (h := h ++ [.lst []]) (h1 := h ++ [.lst []]) (n := many) rfl (by omega)) e1
    rw [deedsB, seq_nx s1]
    refine (seq_nx s2).trans (seq_rt (ev_ret ?_))
    rw [evE]
    show (R.bind (R.ok (D.ref h.length) h') fun x h1 => b1D h1 .tuple x) = _
    rw [R.bind_ok, tuple_r e4]

/-! ### nodes -/
def nodesB : Ss :=
  .cons (.asg (.nm 3) (.lstM .nil)) <|
  .cons (.for_ (.rng (.cons (.var 2) .nil)) (.nm 4) (.cons (.ite (.or_ (.cmp .gt (.var 4) (.bin .sub (.var 2) (.c (.int 3)))) (.and_ (.cmp .eq (.call .ef "_law_draw" (.cons (.var 0) (.cons (.c (.int 5)) .nil))) (.c (.int 0))) (.cmp .gt (.var 4) (.c (.int 0))))) (.cons (.ex (.bm .append (.var 3) (.cons (.tup (.cons (.c (.str "answer")) (.cons (.ix (.lstF (.cons (.c (.int 0)) (.cons (.c (.int 1)) (.cons (.c (.int 1)) (.cons (.c (.int 2)) (.cons (.c (.int 9)) .nil)))))) (.call .ef "_law_draw" (.cons (.var 0) (.cons (.c (.int 5)) .nil)))) .nil))) .nil))) .nil) (.cons (.asg (.nm 5) (.call .ef "_law_draw" (.cons (.var 0) (.cons (.b1 .len (.var 1)) .nil)))) (.cons (.asg (.nm 6) (.lc (.rng (.cons (.ix (.var 1) (.var 5)) .nil)) (.nm 7) (.c (.bl true)) (.bin .add (.bin .add (.var 4) (.c (.int 1))) (.call .ef "_law_draw" (.cons (.var 0) (.cons (.bin .sub (.bin .sub (.var 2) (.c (.int 1))) (.var 4)) .nil)))))) (.cons (.ex (.bm .append (.var 3) (.cons (.tup (.cons (.c (.str "look")) (.cons (.var 5) (.cons (.b1 .tuple (.var 6)) .nil)))) .nil))) .nil)))) .nil)) <|
  .cons (.ret (.b1 .tuple (.var 3))) <|
  .nil
theorem ev_or {a b : E} {ρ : Ev} {x : Bool} {r : R D} (q : evE cl a ρ h = .ok (.bl x) h1) (q2 : x = false → evE cl b ρ h1 = r) : evE cl (.or_ a b) ρ h = if x then .ok (.bl true) h1 else r := by
  rw [evE, q, R.bind_ok]
  cases x with
  | true => rfl
  | false => rw [if_neg (by decide), ← q2 rfl]; rfl
theorem nodes_ok (pt : PenT T) (tb : look T "_law_nodes" = some ⟨"_law_nodes", 3, 8, nodesB⟩) {sz : List Int} (so : SzOk sz) {many : Nat} (hm : many ≤ 1000) (o : PenOk p h) :
    ∃ (ns : List Nd) (h' : Hq), ns.length = many ∧ (∀ (i : Nat) n, ns[i]? = some n → NdOk sz i many n) ∧ Pn p h h' ∧ callN T w (k + 3) "_law_nodes" [.ref p, tD sz, .int (many : Int)] h = .ok (.tup (ns.map dNd)) h' := by
  have hl := o.lt
  have sz0 := so.sz0
  have sz1 := so.sz1
  have ln : ∀ hh : Hq, b1D hh .len (tD sz) = .ok (.int (sz.length : Int)) hh := fun hh => by show R.ok (D.int ((sz.map D.int).length : Nat)) hh = _; rw [List.length_map]
  have ixs : ∀ (hh : Hq) {i : Nat} {x : Int}, sz[i]? = some x → ixD hh (tD sz) (nat i) = some (.int x) := fun hh {i x} e => ix_tup (ixM e)
  have lp := grow_loop (p := p) (asg := fun d ρ h => evT (callN T w (k + 2)) (.nm 4) d ρ h)
    (b := fun ρ h => evSs (callN T w (k + 2)) w (.cons (.ite (.or_ (.cmp .gt (.var 4) (.bin .sub (.var 2) (.c (.int 3)))) (.and_ (.cmp .eq (.call .ef "_law_draw" (.cons (.var 0) (.cons (.c (.int 5)) .nil))) (.c (.int 0))) (.cmp .gt (.var 4) (.c (.int 0))))) (.cons (.ex (.bm .append (.var 3) (.cons (.tup (.cons (.c (.str "answer")) (.cons (.ix (.lstF (.cons (.c (.int 0)) (.cons (.c (.int 1)) (.cons (.c (.int 1)) (.cons (.c (.int 2)) (.cons (.c (.int 9)) .nil)))))) (.call .ef "_law_draw" (.cons (.var 0) (.cons (.c (.int 5)) .nil)))) .nil))) .nil))) .nil) (.cons (.asg (.nm 5) (.call .ef "_law_draw" (.cons (.var 0) (.cons (.b1 .len (.var 1)) .nil)))) (.cons (.asg (.nm 6) (.lc (.rng (.cons (.ix (.var 1) (.var 5)) .nil)) (.nm 7) (.c (.bl true)) (.bin .add (.bin .add (.var 4) (.c (.int 1))) (.call .ef "_law_draw" (.cons (.var 0) (.cons (.bin .sub (.bin .sub (.var 2) (.c (.int 1))) (.var 4)) .nil)))))) (.cons (.ex (.bm .append (.var 3) (.cons (.tup (.cons (.c (.str "look")) (.cons (.var 5) (.cons (.b1 .tuple (.var 6)) .nil)))) .nil))) .nil)))) .nil) ρ h)
    dNd (fun j n => NdOk sz j many n) (h0 := h) (q := h.length) (Nat.le_refl _) hl
    (fun ρ => ∃ x4 x5 x6 x7, ρ = [some (.ref p), some (tD sz), some (.int (many : Int)), some (.ref h.length), x4, x5, x6, x7])
    ((List.range many).map nat) (ρ := [some (.ref p), some (tD sz), some (.int (many : Int)), some (.ref h.length), none, none, none, none]) (h := h ++ [.lst []]) ⟨_, _, _, _, rfl⟩ (Pn.push o _) (last_get h _)
    (fun j d ρ hh hj => by
      rintro ⟨x4, x5, x6, x7, rfl⟩ pn xs hx hxl
      have hj' : j < many := by have := (List.getElem?_eq_some_iff.mp hj).1; simpa using this
      have ed : d = nat j := by rw [List.getElem?_map, List.getElem?_range hj'] at hj; exact (Option.some.inj hj).symm
      subst ed
      have hsm : xs.length < sizeLine := small_size (by omega)
      have cond : ∃ (t : Bool) (hA : Hq), tst (evE (callN T w (k + 2)) (.or_ (.cmp .gt (.var 4) (.bin .sub (.var 2) (.c (.int 3)))) (.and_ (.cmp .eq (.call .ef "_law_draw" (.cons (.var 0) (.cons (.c (.int 5)) .nil))) (.c (.int 0))) (.cmp .gt (.var 4) (.c (.int 0)))))
          [some (.ref p), some (tD sz), some (.int (many : Int)), some (.ref h.length), some (nat j), x5, x6, x7] hh) = .ok t hA ∧ Pn p hh hA ∧ (t = false → j + 3 ≤ many) := by
        by_cases c : (many : Int) - 3 < (j : Int)
        · refine ⟨true, hh, ?_, Pn.refl pn.pen, fun z => nomatch z⟩
          rw [tst, ev_or (x := true) (h1 := hh) (r := .er) (by simp only [evSs, evS, evE, evEs, evT, evTs, evIt, R.bind_ok, R.of_some, Out.of_ok, R.nox, tst, Option.map_some, Option.map, List.getElem?_cons_zero, List.getElem?_cons_succ, List.set_cons_zero, List.set_cons_succ, tru_bl, add_ii, sub_ii, lt_ii, ge_ii, int_i, if_true, if_false, Bool.false_eq_true, Bool.not_true, Bool.not_false, nat, gt_ii]; rw [decide_eq_true c]) (fun z => nomatch z)]; rfl
        · obtain ⟨f, h1, f0, f1, pn1, q1⟩ := draw_pn (w := w) (k := k) pt pn.pen (n := 5) (by decide) (by decide)
          refine ⟨decide (f = 0) && decide (0 < (j : Int)), h1, ?_, pn1, fun _ => by omega⟩
          rw [tst, ev_or (x := false) (h1 := hh) (r := .ok (.bl (decide (f = 0) && decide (0 < (j : Int)))) h1) (by simp only [evSs, evS, evE, evEs, evT, evTs, evIt, R.bind_ok, R.of_some, Out.of_ok, R.nox, tst, Option.map_some, Option.map, List.getElem?_cons_zero, List.getElem?_cons_succ, List.set_cons_zero, List.set_cons_succ, tru_bl, add_ii, sub_ii, lt_ii, ge_ii, int_i, if_true, if_false, Bool.false_eq_true, Bool.not_true, Bool.not_false, nat, gt_ii]; rw [decide_eq_false c]) (fun _ => by
            rw [ev_and (x := decide (f = 0)) (h1 := h1) (r := .ok (.bl (decide (0 < (j : Int)))) h1) (by simp only [evSs, evS, evE, evEs, evT, evTs, evIt, R.bind_ok, R.of_some, Out.of_ok, R.nox, tst, Option.map_some, Option.map, List.getElem?_cons_zero, List.getElem?_cons_succ, List.set_cons_zero, List.set_cons_succ, tru_bl, add_ii, sub_ii, lt_ii, ge_ii, int_i, if_true, if_false, Bool.false_eq_true, Bool.not_true, Bool.not_false, callD, q1, eq_ii]) (fun _ => by simp only [evSs, evS, evE, evEs, evT, evTs, evIt, R.bind_ok, R.of_some, Out.of_ok, R.nox, tst, Option.map_some, Option.map, List.getElem?_cons_zero, List.getElem?_cons_succ, List.set_cons_zero, List.set_cons_succ, tru_bl, add_ii, sub_ii, lt_ii, ge_ii, int_i, if_true, if_false, Bool.false_eq_true, Bool.not_true, Bool.not_false, nat, gt_ii])]
            cases decide (f = 0) <;> rfl)]
          rfl
      obtain ⟨t, hA, ec, pA, tf⟩ := cond
      have gA : hA[h.length]? = some (.lst xs) := pA.got hx (by omega)
      cases t with
      | true =>
        obtain ⟨f, h1, f0, f1, pn1, q1⟩ := draw_pn (w := w) (k := k) pt pA.pen (n := 5) (by decide) (by decide)
        have five : ∃ a : Int, 0 ≤ a ∧ a ≤ 9 ∧ ixD h1 (.lst [.int 0, .int 1, .int 1, .int 2, .int 9]) (.int f) = some (.int a) := by
          have : f = 0 ∨ f = 1 ∨ f = 2 ∨ f = 3 ∨ f = 4 := by omega
          rcases this with rfl | rfl | rfl | rfl | rfl
          · exact ⟨0, by decide, by decide, rfl⟩
          · exact ⟨1, by decide, by decide, rfl⟩
          · exact ⟨1, by decide, by decide, rfl⟩
          · exact ⟨2, by decide, by decide, rfl⟩
          · exact ⟨9, by decide, by decide, rfl⟩
        obtain ⟨a, a0, a9, ea⟩ := five
        refine ⟨.ans a, [some (.ref p), some (tD sz), some (.int (many : Int)), some (.ref h.length), some (nat j), x5, x6, x7], hh, [some (.ref p), some (tD sz), some (.int (many : Int)), some (.ref h.length), some (nat j), x5, x6, x7], h1, rfl, ?_, ⟨_, _, _, _, rfl⟩, pA.trans pn1, a0, a9⟩
        refine seq_one ((ev_if ec).trans ?_)
        rw [if_pos rfl]
        refine seq_one (ev_append (d := dNd (.ans a)) rfl gA ?_ (pn1.got gA (by omega)) hsm)
        simp only [evSs, evS, evE, evEs, evT, evTs, evIt, R.bind_ok, R.of_some, Out.of_ok, R.nox, tst, Option.map_some, Option.map, List.getElem?_cons_zero, List.getElem?_cons_succ, List.set_cons_zero, List.set_cons_succ, tru_bl, add_ii, sub_ii, lt_ii, ge_ii, int_i, if_true, if_false, Bool.false_eq_true, Bool.not_true, Bool.not_false, callD, q1, ea]
        rfl
      | false =>
        have hj3 := tf rfl
        obtain ⟨c, h1, c0, c1, pn1, q1⟩ := draw_pn (w := w) (k := k) pt pA.pen (n := (sz.length : Int)) (by omega) (by omega)
        obtain ⟨cc, rfl⟩ : ∃ cc : Nat, c = (cc : Int) := ⟨c.toNat, (Int.toNat_of_nonneg c0).symm⟩
        have hc : cc < sz.length := by omega
        obtain ⟨z, ez⟩ : ∃ z, sz[cc]? = some z := ⟨sz[cc], by simp [hc]⟩
        obtain ⟨z2, z4⟩ := so.sz2 z (List.mem_of_getElem? ez)
        obtain ⟨zz, rfl⟩ : ∃ zz : Nat, z = (zz : Int) := ⟨z.toNat, (Int.toNat_of_nonneg (by omega)).symm⟩
        obtain ⟨vs, h2, e2, p2, l2, v2⟩ := lcL_all (asg := fun dd hq => evT (callN T w (k + 2)) (.nm 7) dd (wipeE [some (.ref p), some (tD sz), some (.int (many : Int)), some (.ref h.length), some (nat j), some (nat cc), x6, x7] [7]) hq)
          (cond := fun ρ hq => tst (evE (callN T w (k + 2)) (.c (.bl true)) ρ hq)) (x := fun ρ hq => evE (callN T w (k + 2)) (.bin .add (.bin .add (.var 4) (.c (.int 1))) (.call .ef "_law_draw" (.cons (.var 0) (.cons (.bin .sub (.bin .sub (.var 2) (.c (.int 1))) (.var 4)) .nil)))) ρ hq)
          (Pn p hA) (fun _ v => ∃ t : Nat, v = nat t ∧ j < t ∧ t < many) ((List.range zz).map nat) h1 pn1 (fun dd _ hq pq => by
            obtain ⟨g, h3, g0, g1, pn3, q3⟩ := draw_pn (w := w) (k := k) pt pq.pen (n := (many : Int) - 1 - (j : Int)) (by omega) (by omega)
            obtain ⟨gg, rfl⟩ : ∃ gg : Nat, g = (gg : Int) := ⟨g.toNat, (Int.toNat_of_nonneg g0).symm⟩
            refine ⟨[some (.ref p), some (tD sz), some (.int (many : Int)), some (.ref h.length), some (nat j), some (nat cc), x6, some dd], hq, hq, nat (j + 1 + gg), h3, rfl, rfl, ?_, ⟨_, rfl, by omega, by omega⟩, pq.trans pn3⟩
            simp only [evSs, evS, evE, evEs, evT, evTs, evIt, R.bind_ok, R.of_some, Out.of_ok, R.nox, tst, Option.map_some, Option.map, List.getElem?_cons_zero, List.getElem?_cons_succ, List.set_cons_zero, List.set_cons_succ, tru_bl, add_ii, sub_ii, lt_ii, ge_ii, int_i, if_true, if_false, Bool.false_eq_true, Bool.not_true, Bool.not_false, callD, nat, q3]
            rfl)
        obtain ⟨ts, et, ot⟩ := map_of (en := nat) (ok := fun t => j < t ∧ t < many) (vs := vs) fun v m => by
          obtain ⟨i, hi⟩ := List.mem_iff_getElem?.mp m
          have : i < ((List.range zz).map nat).length := by rw [← l2]; exact (List.getElem?_eq_some_iff.mp hi).1
          exact v2 i _ v (List.getElem?_eq_getElem this) hi
        have lt : ts.length = zz := by
          have := l2; rw [et, List.length_map, List.length_map, List.length_range] at this; exact this
        have g2 : h2[h.length]? = some (.lst xs) := p2.got gA (by omega)
        refine ⟨.look cc ts, [some (.ref p), some (tD sz), some (.int (many : Int)), some (.ref h.length), some (nat j), x5, x6, x7], hh, [some (.ref p), some (tD sz), some (.int (many : Int)), some (.ref h.length), some (nat j), some (nat cc), some (.lst (ts.map nat)), x7], h2, rfl, ?_, ⟨_, _, _, _, rfl⟩, pA.trans p2, _, ez, by rw [lt], ot⟩
        refine seq_one ((ev_if ec).trans ?_)
        rw [if_neg (by decide)]
        have r1 : evS (callN T w (k + 2)) w (.asg (.nm 5) (.call .ef "_law_draw" (.cons (.var 0) (.cons (.b1 .len (.var 1)) .nil)))) [some (.ref p), some (tD sz), some (.int (many : Int)), some (.ref h.length), some (nat j), x5, x6, x7] hA =
            .nx [some (.ref p), some (tD sz), some (.int (many : Int)), some (.ref h.length), some (nat j), some (nat cc), x6, x7] h1 := by
          simp only [evSs, evS, evE, evEs, evT, evTs, evIt, R.bind_ok, R.of_some, Out.of_ok, R.nox, tst, Option.map_some, Option.map, List.getElem?_cons_zero, List.getElem?_cons_succ, List.set_cons_zero, List.set_cons_succ, tru_bl, add_ii, sub_ii, lt_ii, ge_ii, int_i, if_true, if_false, Bool.false_eq_true, Bool.not_true, Bool.not_false, callD, ln, q1]; rfl
        have r2 : evE (callN T w (k + 2)) (.lc (.rng (.cons (.ix (.var 1) (.var 5)) .nil)) (.nm 7) (.c (.bl true)) (.bin .add (.bin .add (.var 4) (.c (.int 1))) (.call .ef "_law_draw" (.cons (.var 0) (.cons (.bin .sub (.bin .sub (.var 2) (.c (.int 1))) (.var 4)) .nil)))))
            [some (.ref p), some (tD sz), some (.int (many : Int)), some (.ref h.length), some (nat j), some (nat cc), x6, x7] h1 = .ok (.lst (ts.map nat)) h2 := by
          rw [← et]
          exact ev_lc (ev_rng (n := zz) (h1 := h1) (by simp only [evSs, evS, evE, evEs, evT, evTs, evIt, R.bind_ok, R.of_some, Out.of_ok, R.nox, tst, Option.map_some, Option.map, List.getElem?_cons_zero, List.getElem?_cons_succ, List.set_cons_zero, List.set_cons_succ, tru_bl, add_ii, sub_ii, lt_ii, ge_ii, int_i, if_true, if_false, Bool.false_eq_true, Bool.not_true, Bool.not_false, ixs h1 ez]) (by omega)) (by rw [List.length_map, List.length_range]; exact fits_small (by omega)) e2
        refine (seq_nx r1).trans ((seq_nx (ev_asg r2)).trans (seq_one (ev_append (d := dNd (.look cc ts)) (h2 := h2) rfl g2 ?_ g2 hsm)))
        simp only [evSs, evS, evE, evEs, evT, evTs, evIt, R.bind_ok, R.of_some, Out.of_ok, R.nox, tst, Option.map_some, Option.map, List.getElem?_cons_zero, List.getElem?_cons_succ, List.set_cons_zero, List.set_cons_succ, tru_bl, add_ii, sub_ii, lt_ii, ge_ii, int_i, if_true, if_false, Bool.false_eq_true, Bool.not_true, Bool.not_false, tuple_l]
        rfl)
  obtain ⟨ns, ρ', h', e1, ⟨x4, x5, x6, x7, rfl⟩, e3, e4, e5, e6⟩ := lp
  refine ⟨ns, h', by simpa using e5, e6, e3, ?_⟩
  refine call_rt (f := ⟨"_law_nodes", 3, 8, nodesB⟩) (ρ := [some (.ref p), some (tD sz), some (.int (many : Int)), some (.ref h.length), x4, x5, x6, x7]) tb rfl ?_
  show evSs (callN T w (k + 2)) w nodesB [some (.ref p), some (tD sz), some (.int (many : Int)), none, none, none, none, none] h = _
  have s1 : evS (callN T w (k + 2)) w (.asg (.nm 3) (.lstM .nil)) [some (.ref p), some (tD sz), some (.int (many : Int)), none, none, none, none, none] h = .nx [some (.ref p), some (tD sz), some (.int (many : Int)), some (.ref h.length), none, none, none, none] (h ++ [.lst []]) := rfl
  have s2 := ev_for (w := w) (ev_rng (cl := callN T w (k + 2)) (e := .var 2) (ρ := [some (.ref p), some (tD sz), some (.int (many : Int)), some (.ref h.length), none, none, none, none]) (h := h ++ [.lst []]) (h1 := h ++ [.lst []]) (n := many) rfl (by omega)) e1
  rw [nodesB, seq_nx s1]
  exact (seq_nx s2).trans (seq_rt (ev_ret (ev_b1 rfl (tuple_r e4))))

/-! ### houses -/
def houseB : Ss :=
  .cons (.ret (.tup (.cons (.var 1) (.cons (.call .ef "_law_nodes" (.cons (.var 0) (.cons (.var 1) (.cons (.var 2) .nil)))) (.cons (.call .ef "_law_deeds" (.cons (.var 0) (.cons (.var 1) (.cons (.var 3) (.cons (.var 4) .nil))))) .nil))))) <|
  .nil
theorem house_ok (dt : DrawT T) (tn : look T "_law_nodes" = some ⟨"_law_nodes", 3, 8, nodesB⟩) (tb : look T "_law_house" = some ⟨"_law_house", 5, 5, houseB⟩) {sz : List Int} (so : SzOk sz) {nodes deeds steps : Nat}
    (h1 : 1 ≤ nodes) (h2 : nodes ≤ 12) (h3 : deeds ≤ 6) (h4 : steps ≤ 6) (o : PenOk p h) :
    ∃ (H : Hs) (h' : Hq), HsOk H ∧ H.sz = sz ∧ H.nd.length = nodes ∧ H.dd.length = deeds ∧ (∀ d ∈ H.dd, ∀ s ∈ d, s.dep ≤ 2) ∧ Pn p h h' ∧ callN T w (k + 7) "_law_house" [.ref p, tD sz, .int (nodes : Int), .int (deeds : Int), .int (steps : Int)] h = .ok (dHs H) h' := by
  obtain ⟨ns, ha, n1, n2, n3, n4⟩ := nodes_ok (w := w) (k := k + 3) dt.pt tn so (many := nodes) (by omega) o
  obtain ⟨ds, hb, d1, d2, d3, d4⟩ := deeds_ok (w := w) (k := k) dt so (many := deeds) (steps := steps) (by omega) (by omega) n3.pen
  refine ⟨⟨sz, ns, ds⟩, hb, ⟨so.sz0, so.sz1, so.sz2, so.sz3, by dsimp only; omega, by dsimp only; omega, fun i n e => by rw [n1]; exact n2 i n e, by dsimp only; omega, fun d m => ⟨by have := (d2 d m).1; omega, fun s q => ⟨((d2 d m).2 s q).1, by have := ((d2 d m).2 s q).2; omega⟩⟩⟩, rfl, n1, d1, fun d m s q => ((d2 d m).2 s q).2, n3.trans d3, ?_⟩
  refine call_rt (f := ⟨"_law_house", 5, 5, houseB⟩) (ρ := [some (.ref p), some (tD sz), some (.int (nodes : Int)), some (.int (deeds : Int)), some (.int (steps : Int))]) tb rfl ?_
  show evSs (callN T w (k + 6)) w houseB [some (.ref p), some (tD sz), some (.int (nodes : Int)), some (.int (deeds : Int)), some (.int (steps : Int))] h = _
  rw [houseB]
  refine seq_rt (ev_ret ?_)
  simp only [evSs, evS, evE, evEs, evT, evTs, evIt, R.bind_ok, R.of_some, Out.of_ok, R.nox, tst, Option.map_some, Option.map, List.getElem?_cons_zero, List.getElem?_cons_succ, List.set_cons_zero, List.set_cons_succ, tru_bl, add_ii, sub_ii, lt_ii, ge_ii, int_i, if_true, if_false, Bool.false_eq_true, Bool.not_true, Bool.not_false, callD, n4, d4]
  rfl

/-! ### sets -/
def setB : Ss :=
  .cons (.asg (.nm 2) (.call .pu "_law_contents" (.cons (.var 1) .nil))) <|
  .cons (.asg (.nm 3) (.lc (.sq (.var 2)) (.nm 4) (.cmp .eq (.call .ef "_law_draw" (.cons (.var 0) (.cons (.c (.int 2)) .nil))) (.c (.int 0))) (.var 4))) <|
  .cons (.ret (.ite (.cmp .ne (.var 3) (.lstF .nil)) (.b1 .tuple (.var 3)) (.tup (.cons (.ix (.var 2) (.call .ef "_law_draw" (.cons (.var 0) (.cons (.b1 .len (.var 2)) .nil)))) .nil)))) <|
  .nil
/-- a comprehension that takes some of a row, numbers drawn on the way -/
theorem lcL_some {α : Type} {asg : D → Hq → R Ev} {cond : Ev → Hq → R Bool} {x : Ev → Hq → R D} (P : Hq → Prop) (en : α → D) : ∀ (as : List α) (h : Hq), P h →
    (∀ a ∈ as, ∀ h, P h → ∃ ρ h1 b h2, asg (en a) h = .ok ρ h1 ∧ cond ρ h1 = .ok b h2 ∧ P h2 ∧ (b = true → x ρ h2 = .ok (en a) h2)) →
    ∃ (bs : List α) (h' : Hq), lcL none asg cond x (as.map en) h = .ok (bs.map en) h' ∧ P h' ∧ List.Sublist bs as
  | [], h, p, _ => ⟨[], h, rfl, p, List.Sublist.refl _⟩
  | a :: as, h, p, st => by
    obtain ⟨ρ, h1, b, h2, e1, e2, q, e3⟩ := st a (List.mem_cons_self ..) h p
    obtain ⟨bs, h', i1, i2, i3⟩ := lcL_some P en as h2 q fun y m => st y (List.mem_cons_of_mem _ m)
    cases b with
    | false =>
      refine ⟨bs, h', ?_, i2, i3.cons _⟩
      rw [List.map_cons]
      unfold lcL
      rw [if_pos (show unch none h = true from rfl), e1, R.bind_ok, e2, R.bind_ok, if_neg (by decide)]
      exact i1
    | true =>
      refine ⟨a :: bs, h', ?_, i2, i3.cons₂ _⟩
      rw [List.map_cons]
      unfold lcL
      rw [if_pos (show unch none h = true from rfl), e1, R.bind_ok, e2, R.bind_ok, if_pos rfl, e3 rfl, R.bind_ok, i1, R.bind_ok]; rfl
theorem ne_tDs (cs : List (List Int)) (fz : ∀ c ∈ cs, plain 59 (tD c) = true) : cmpD h .ne (.lst (cs.map tD)) (.lst []) = some (!cs.isEmpty) := by
  have e : eqD h (.lst (cs.map tD)) (.lst []) = some cs.isEmpty := by
    show (if Rx.plain 60 (.lst (cs.map tD)) && Rx.plain 60 (.lst []) then some (eqv (.lst (cs.map tD)) (.lst [])) else none) = _
    have : Rx.plain 60 (.lst (cs.map tD)) = true := by
      simp only [plain, List.all_eq_true]
      intro d m
      obtain ⟨c, hc, rfl⟩ := List.mem_map.mp m
      exact fz c hc
    rw [this]
    cases cs <;> rfl
  show (eqD h (.lst (cs.map tD)) (.lst [])).map (!·) = _
  rw [e]; rfl
theorem plain_tD (c : List Int) (n : Nat) : plain (n + 1) (tD c) = true := by
  simp only [tD, plain, List.all_eq_true]
  intro d m
  obtain ⟨c, hc, rfl⟩ := List.mem_map.mp m
  unfold plain; rfl
theorem set_ok (pt : PenT T) (tc : look T "_law_contents" = some ⟨"_law_contents", 1, 6, lawContB⟩) (tb : look T "_law_set" = some ⟨"_law_set", 2, 5, setB⟩) {H : Hs} (ok : HsOk H) (o : PenOk p h) :
    ∃ (cs : List (List Int)) (h' : Hq), cs ≠ [] ∧ List.Sublist cs (contM H.sz) ∧ Pn p h h' ∧ callN T w (k + 3) "_law_set" [.ref p, dHs H] h = .ok (.tup (cs.map tD)) h' := by
  obtain ⟨cok, c8, c2, -⟩ := contM_ok ok
  have ec := lawCont_ok (T := T) (w := w) (k := k + 1) (h := h) tc ok
  obtain ⟨bs, h1, e1, p1, sub⟩ := lcL_some (asg := fun dd hq => evT (callN T w (k + 2)) (.nm 4) dd (wipeE [some (.ref p), some (dHs H), some (.lst ((contM H.sz).map tD)), none, none] [4]) hq)
    (cond := fun ρ hq => tst (evE (callN T w (k + 2)) (.cmp .eq (.call .ef "_law_draw" (.cons (.var 0) (.cons (.c (.int 2)) .nil))) (.c (.int 0))) ρ hq)) (x := fun ρ hq => evE (callN T w (k + 2)) (.var 4) ρ hq)
    (Pn p h) tD (contM H.sz) h (Pn.refl o) (fun c _ hq pq => by
      obtain ⟨g, h3, g0, g1, pn3, q3⟩ := draw_pn (w := w) (k := k) pt pq.pen (n := 2) (by decide) (by decide)
      refine ⟨[some (.ref p), some (dHs H), some (.lst ((contM H.sz).map tD)), none, some (tD c)], hq, decide (g = 0), h3, rfl, ?_, pq.trans pn3, fun _ => rfl⟩
      simp only [evSs, evS, evE, evEs, evT, evTs, evIt, R.bind_ok, R.of_some, Out.of_ok, R.nox, tst, Option.map_some, Option.map, List.getElem?_cons_zero, List.getElem?_cons_succ, List.set_cons_zero, List.set_cons_succ, tru_bl, add_ii, sub_ii, lt_ii, ge_ii, int_i, if_true, if_false, Bool.false_eq_true, Bool.not_true, Bool.not_false, callD, q3, eq_ii])
  have s1 : evS (callN T w (k + 2)) w (.asg (.nm 2) (.call .pu "_law_contents" (.cons (.var 1) .nil))) [some (.ref p), some (dHs H), none, none, none] h = .nx [some (.ref p), some (dHs H), some (.lst ((contM H.sz).map tD)), none, none] h := by
    simp only [evSs, evS, evE, evEs, evT, evTs, evIt, R.bind_ok, R.of_some, Out.of_ok, R.nox, tst, Option.map_some, Option.map, List.getElem?_cons_zero, List.getElem?_cons_succ, List.set_cons_zero, List.set_cons_succ, tru_bl, add_ii, sub_ii, lt_ii, ge_ii, int_i, if_true, if_false, Bool.false_eq_true, Bool.not_true, Bool.not_false, callD, ec]
  have s2 : evS (callN T w (k + 2)) w (.asg (.nm 3) (.lc (.sq (.var 2)) (.nm 4) (.cmp .eq (.call .ef "_law_draw" (.cons (.var 0) (.cons (.c (.int 2)) .nil))) (.c (.int 0))) (.var 4))) [some (.ref p), some (dHs H), some (.lst ((contM H.sz).map tD)), none, none] h =
      .nx [some (.ref p), some (dHs H), some (.lst ((contM H.sz).map tD)), some (.lst (bs.map tD)), none] h1 := ev_asg (ev_lc rfl (by rw [List.length_map]; exact fits_small (by omega)) e1)
  have cn : tst (evE (callN T w (k + 2)) (.cmp .ne (.var 3) (.lstF .nil)) [some (.ref p), some (dHs H), some (.lst ((contM H.sz).map tD)), some (.lst (bs.map tD)), none] h1) = .ok (!bs.isEmpty) h1 := by
    simp only [evSs, evS, evE, evEs, evT, evTs, evIt, R.bind_ok, R.of_some, Out.of_ok, R.nox, tst, Option.map_some, Option.map, List.getElem?_cons_zero, List.getElem?_cons_succ, List.set_cons_zero, List.set_cons_succ, tru_bl, add_ii, sub_ii, lt_ii, ge_ii, int_i, if_true, if_false, Bool.false_eq_true, Bool.not_true, Bool.not_false, ne_tDs bs fun c _ => plain_tD c 58]
  have run : ∀ {d : D} {h' : Hq}, evE (callN T w (k + 2)) (.ite (.cmp .ne (.var 3) (.lstF .nil)) (.b1 .tuple (.var 3)) (.tup (.cons (.ix (.var 2) (.call .ef "_law_draw" (.cons (.var 0) (.cons (.b1 .len (.var 2)) .nil)))) .nil))) [some (.ref p), some (dHs H), some (.lst ((contM H.sz).map tD)), some (.lst (bs.map tD)), none] h1 = .ok d h' →
      callN T w (k + 3) "_law_set" [.ref p, dHs H] h = .ok d h' := fun {d h'} r => by
    refine call_rt (f := ⟨"_law_set", 2, 5, setB⟩) (ρ := [some (.ref p), some (dHs H), some (.lst ((contM H.sz).map tD)), some (.lst (bs.map tD)), none]) tb rfl ?_
    show evSs (callN T w (k + 2)) w setB [some (.ref p), some (dHs H), none, none, none] h = _
    rw [setB, seq_nx s1, seq_nx s2]
    exact seq_rt (ev_ret r)
  by_cases hb : bs = []
  · subst hb
    have hc : 0 < (contM H.sz).length := by omega
    obtain ⟨g, h3, g0, g1, pn3, q3⟩ := draw_pn (w := w) (k := k) pt p1.pen (n := ((contM H.sz).length : Int)) (by omega) (by omega)
    have hg : g.toNat < (contM H.sz).length := by omega
    refine ⟨[(contM H.sz)[g.toNat]], h3, by simp, List.singleton_sublist.mpr (List.getElem_mem hg), p1.trans pn3, run ?_⟩
    rw [evE, cn, R.bind_ok]
    have ix : ixD h3 (.lst ((contM H.sz).map tD)) (.int g) = some (tD (contM H.sz)[g.toNat]) := ix_lstI g0 (ixM (by simp [hg]))
    have ll : b1D h1 .len (.lst ((contM H.sz).map tD)) = .ok (.int ((contM H.sz).length : Int)) h1 := by rw [len_l, List.length_map]
    simp only [evSs, evS, evE, evEs, evT, evTs, evIt, R.bind_ok, R.of_some, Out.of_ok, R.nox, tst, Option.map_some, Option.map, List.getElem?_cons_zero, List.getElem?_cons_succ, List.set_cons_zero, List.set_cons_succ, tru_bl, add_ii, sub_ii, lt_ii, ge_ii, int_i, if_true, if_false, Bool.false_eq_true, Bool.not_true, Bool.not_false, callD, ll, q3, ix, List.isEmpty]
    rfl
  · refine ⟨bs, h1, hb, sub, p1, run ?_⟩
    rw [evE, cn, R.bind_ok]
    have : bs.isEmpty = false := by cases bs with | nil => exact (hb rfl).elim | cons => rfl
    rw [this]
    simp only [evSs, evS, evE, evEs, evT, evTs, evIt, R.bind_ok, R.of_some, Out.of_ok, R.nox, tst, Option.map_some, Option.map, List.getElem?_cons_zero, List.getElem?_cons_succ, List.set_cons_zero, List.set_cons_succ, tru_bl, add_ii, sub_ii, lt_ii, ge_ii, int_i, if_true, if_false, Bool.false_eq_true, Bool.not_true, Bool.not_false, tuple_l]
end Rx

/-! RyH: what laws have in common. -/
namespace Rx
open PySem L2
variable {T : List Fn} {w k : Nat} {h h' h1 h2 : Hq} {cl : Cl} {p : Nat}

theorem same_rcmp {neg : Bool} {a b : E} {ρ : Ev} {d : D} (ea : evE cl a ρ h = .ok d h1) (eb : evE cl b ρ h1 = .ok d h2) (s : shw d = true) (v : ∀ hh, view hh d = d) : evE cl (.rcmp neg a b) ρ h = .ok (.bl (!neg)) h2 := by
  rw [evE, ea, R.bind_ok, v, if_pos s, eb, R.bind_ok, v, s, D.same_self]; rfl
theorem view_tupD (hh : Hq) (xs : List D) : view hh (.tup xs) = .tup xs := rfl
theorem view_optD (hh : Hq) (o : Option Int) : view hh (dOpt o) = dOpt o := by cases o <;> rfl
theorem bool_ite {c : E} {ρ : Ev} {t : Bool} (e : evE cl c ρ h = .ok (.bl t) h1) : tst (evE cl c ρ h) = .ok t h1 := by rw [tst, e]; rfl
/-- a refusal that is not met -/
theorem skip_ {c : E} {b : Ss} {ρ : Ev} (e : evE cl c ρ h = .ok (.bl false) h1) : evS cl w (.ite c b .nil) ρ h = .nx ρ h1 := (ev_if (bool_ite e)).trans rfl
theorem turns_ok {m : Nat} {ρ : Ev} {xs : List D} (e : ρ[0]? = some (some (.slst xs))) (hm : m ≤ 1000) : ∃ n : Nat, n ≤ m + 1 ∧ evE cl (.b2 .max (.c (.int 1)) (.b2 .min (.c (.int (m : Int))) (.b1 .len (.var 0)))) ρ h = .ok (.int (n : Int)) h := by
  have l : b1D h .len (.slst xs) = .ok (.int (xs.length : Int)) h := rfl
  refine ⟨(if (if (xs.length : Int) < (m : Int) then (xs.length : Int) else (m : Int)) > 1 then (if (xs.length : Int) < (m : Int) then (xs.length : Int) else (m : Int)) else 1).toNat, ?_, ?_⟩
  · split <;> split <;> omega
  · rw [evE, evE, R.bind_ok, evE, evE, R.bind_ok, evE, evE, e]
    dsimp only
    rw [R.bind_ok, l, R.bind_ok]
    show R.bind (R.ok (D.int (if (xs.length : Int) < (m : Int) then (xs.length : Int) else (m : Int))) h) _ = _
    rw [R.bind_ok]
    show R.ok (D.int (if (if (xs.length : Int) < (m : Int) then (xs.length : Int) else (m : Int)) > 1 then (if (xs.length : Int) < (m : Int) then (xs.length : Int) else (m : Int)) else 1)) h = _
    congr 2
    split <;> split <;> omega
/-- the law's loop of turns -/
theorem turns_loop {asg : D → Ev → Hq → R Ev} {b : Ev → Hq → Out} (E : Ev → Prop) (ds : List D) {ρ : Ev} (e0 : E ρ) (pn : PenOk p h) (st : ∀ d ∈ ds, ∀ ρ h, E ρ → PenOk p h → ∃ ρ1 h1 ρ2 h2, asg d ρ h = .ok ρ1 h1 ∧ b ρ1 h1 = .nx ρ2 h2 ∧ E ρ2 ∧ PenOk p h2) :
    ∃ ρ' h', forL none asg b ds ρ h = .nx ρ' h' ∧ E ρ' ∧ PenOk p h' := by
  obtain ⟨ρ', h', e1, e2⟩ := forL_inv (asg := asg) (b := b) (fun _ ρ h => E ρ ∧ PenOk p h) ds 0 ρ h ⟨e0, pn⟩ fun j d ρ h hj ⟨q1, q2⟩ => by
    obtain ⟨ρ1, h1, ρ2, h2, z1, z2, z3, z4⟩ := st d (List.mem_of_getElem? hj) ρ h q1 q2
    exact ⟨ρ1, h1, ρ2, h2, z1, .inl z2, z3, z4⟩
  exact ⟨ρ', h', e1, e2⟩
/-- a loop that changes nothing -/
theorem still_loop {asg : D → Ev → Hq → R Ev} {b : Ev → Hq → Out} (E : Ev → Prop) (ds : List D) {ρ : Ev} (e0 : E ρ) (st : ∀ d ∈ ds, ∀ ρ, E ρ → ∃ ρ1 ρ2, asg d ρ h = .ok ρ1 h ∧ b ρ1 h = .nx ρ2 h ∧ E ρ2) :
    ∃ ρ', forL none asg b ds ρ h = .nx ρ' h ∧ E ρ' := by
  obtain ⟨ρ', h', e1, e2, rfl⟩ := forL_inv (asg := asg) (b := b) (fun _ ρ hh => E ρ ∧ hh = h) ds 0 ρ h ⟨e0, rfl⟩ fun j d ρ hh hj ⟨q1, q2⟩ => by
    subst q2
    obtain ⟨ρ1, ρ2, z1, z2, z3⟩ := st d (List.mem_of_getElem? hj) ρ q1
    exact ⟨ρ1, hh, ρ2, hh, z1, .inl z2, z3, rfl⟩
  exact ⟨ρ', e1, e2⟩
theorem ne_same_str (x : Str) : cmpD h .ne (.str x) (.str x) = some false := by rw [ne_ss]; simp
theorem repr_ok {d : D} (s : shw d = true) (v : view h d = d) : b1D h .repr d = .ok (.str (shown d)) h := by
  show (if shw (view h d) then R.ok (D.str (shown (view h d))) h else R.er) = _
  rw [v, if_pos s]
theorem ask_len {H : Hs} {c : List Int} (ok : HsOk H) : ∀ (f i : Nat), (ask H c f i).1.length ≤ f ∧ (∀ x ∈ (ask H c f i).1, x < 3) ∧ 0 ≤ (ask H c f i).2 ∧ (ask H c f i).2 ≤ 9
  | 0, i => ⟨Nat.le_refl _, (fun x m => nomatch m), by show (0 : Int) ≤ 0; decide, by show (0 : Int) ≤ 9; decide⟩
  | f + 1, i => by
    have triv : ∀ f : Nat, (([], 0) : List Nat × Int).1.length ≤ f + 1 ∧ (∀ x ∈ (([], 0) : List Nat × Int).1, x < 3) ∧ 0 ≤ (([], 0) : List Nat × Int).2 ∧ (([], 0) : List Nat × Int).2 ≤ 9 := fun f => ⟨Nat.zero_le _, (fun x m => nomatch m), by decide, by decide⟩
    unfold ask
    cases e : H.nd[i]? with
    | none => exact triv f
    | some n =>
      have on := ok.nd2 i n e
      cases n with
      | ans a => exact ⟨Nat.zero_le _, (fun x m => nomatch m), on⟩
      | look cell ts =>
        obtain ⟨s, e1, e2, e3⟩ := on
        have hc := (List.getElem?_eq_some_iff.mp e1).1
        have := ok.sz1
        dsimp only
        cases c[cell]? with
        | none => exact triv f
        | some x =>
          dsimp only
          cases ts[x.toNat]? with
          | none => exact triv f
          | some t =>
            obtain ⟨l1, l2, l3, l4⟩ := ask_len (c := c) ok f t
            refine ⟨by rw [List.length_cons]; omega, fun x m => ?_, l3, l4⟩
            rcases List.mem_cons.mp m with rfl | m
            · omega
            · exact l2 x m
theorem asked_shw {H : Hs} {c : List Int} (ok : HsOk H) : shw (.tup [.tup ((asks_ H c).map nat), .int (answ H c)]) = true := by
  obtain ⟨l1, l2, l3, l4⟩ := ask_len (c := c) ok H.nd.length 0
  have := ok.nd1
  refine (okW_tup (n := 1) (W := 252) (L := 2) (fun x m => ?_) (Nat.le_refl _)).shw (by omega) (by omega)
  simp only [List.mem_cons, List.mem_nil_iff, or_false] at m
  rcases m with rfl | rfl
  · exact okW_map (n := 0) (W := 20) (L := 12) (fun t m => okW_nat (by have := l2 t m; omega)) (by show (ask H c H.nd.length 0).1.length ≤ 12; omega)
  · exact (okW_int (by show _ ≤ (ask H c H.nd.length 0).2; omega) (by show (ask H c H.nd.length 0).2 ≤ _; omega)).mono (by omega) (by omega)
theorem answ_bd {H : Hs} (ok : HsOk H) (c : List Int) : 0 ≤ answ H c ∧ answ H c ≤ 9 := by
  obtain ⟨l1, l2, l3, l4⟩ := ask_len (c := c) ok H.nd.length 0
  exact ⟨l3, l4⟩
theorem answ_shw {H : Hs} (ok : HsOk H) (c : List Int) : shw (.int (answ H c)) = true := (okW_int (by have := answ_bd ok c; omega) (by have := answ_bd ok c; omega)).shw (by omega) (by omega)
theorem verd_shw {H : Hs} (ok : HsOk H) (cs : List (List Int)) : shw (dOpt (verd H cs)) = true := by
  unfold verd
  split
  · rename_i a e
    have : a ∈ ddp (cs.map (answ H)) := by rw [e]; simp
    rw [ddp_mem] at this
    obtain ⟨c, -, rfl⟩ := List.mem_map.mp this
    exact answ_shw ok c
  · exact okW_non.shw (by omega) (by omega)
theorem verd_one (H : Hs) (c : List Int) : verd H [c] = some (answ H c) := rfl
/-- the start of a law's run -/
theorem law_start (pt : PenT T) (ns : List Int) : callN T w (k + 1) "_law_pen" [.slst (ns.map D.int)] [] = .ok (.ref 0) [penO (ns.take 63) 0 0] ∧ PenOk 0 [penO (ns.take 63) 0 0] :=
  ⟨pen_ok (h := []) pt ns, ns.take 63, 0, 0, Int.le_refl _, Int.le_refl _, rfl⟩

/-! ### what calls promise, whatever the table -/
def DrawS (cl : Cl) : Prop := ∀ {p : Nat} {h : Hq} {n : Int}, PenOk p h → 0 < n → n < 1073741824 → ∃ d h', 0 ≤ d ∧ d < n ∧ Pn p h h' ∧ cl "_law_draw" [.ref p, .int n] h = .ok (.int d) h'
/-- a number drawn, as a natural one -/
theorem DrawS.nat (s : DrawS cl) (o : PenOk p h) {n : Int} (hn : 0 < n) (h2 : n < 1073741824) : ∃ (d : Nat) (h' : Hq), (d : Int) < n ∧ Pn p h h' ∧ cl "_law_draw" [.ref p, .int n] h = .ok (.int (d : Int)) h' := by
  obtain ⟨d, h', d0, d1, pn, q⟩ := s o (n := n) hn h2
  obtain ⟨dd, rfl⟩ : ∃ dd : Nat, d = (dd : Int) := ⟨d.toNat, (Int.toNat_of_nonneg d0).symm⟩
  exact ⟨dd, h', d1, pn, q⟩
theorem drawS (pt : PenT T) : DrawS (callN T w (k + 2)) := fun o h1 h2 => draw_pn (w := w) (k := k) pt o h1 h2
def SizesS (cl : Cl) : Prop := ∀ {p : Nat} {h : Hq}, PenOk p h → ∃ sz h', SzOk sz ∧ Pn p h h' ∧ cl "_law_sizes" [.ref p] h = .ok (tD sz) h'
theorem sizesS (pt : PenT T) (tb : look T "_law_sizes" = some ⟨"_law_sizes", 1, 2, sizesB⟩) : SizesS (callN T w (k + 3)) := fun o => sizes_ok (w := w) (k := k) pt tb o
def HouseS (cl : Cl) : Prop := ∀ {p : Nat} {h : Hq} {sz : List Int} {nodes deeds steps : Nat}, PenOk p h → SzOk sz → 1 ≤ nodes → nodes ≤ 12 → deeds ≤ 6 → steps ≤ 6 →
    ∃ (H : Hs) (h' : Hq), HsOk H ∧ H.sz = sz ∧ H.nd.length = nodes ∧ H.dd.length = deeds ∧ (∀ d ∈ H.dd, ∀ s ∈ d, s.dep ≤ 2) ∧ Pn p h h' ∧ cl "_law_house" [.ref p, tD sz, .int (nodes : Int), .int (deeds : Int), .int (steps : Int)] h = .ok (dHs H) h'
theorem houseS (dt : DrawT T) (tn : look T "_law_nodes" = some ⟨"_law_nodes", 3, 8, nodesB⟩) (tb : look T "_law_house" = some ⟨"_law_house", 5, 5, houseB⟩) : HouseS (callN T w (k + 7)) := fun o so h1 h2 h3 h4 => house_ok (w := w) (k := k) dt tn tb so h1 h2 h3 h4 o
def ContS (cl : Cl) (name : Str) (f : List D → D) : Prop := ∀ {h : Hq} {H : Hs}, HsOk H → callPu cl name [dHs H] h = .ok (f ((contM H.sz).map tD)) h
theorem lawContS {name : Str} (tb : look T name = some ⟨name, 1, 6, lawContB⟩) : ContS (callN T w (k + 1)) name .lst := fun ok => lawCont_ok (w := w) (k := k) tb ok
theorem contS {name : Str} (tb : look T name = some ⟨name, 1, 6, contB⟩) : ContS (callN T w (k + 1)) name .tup := fun ok => cont_ok (w := w) (k := k) tb ok
def SetS (cl : Cl) : Prop := ∀ {p : Nat} {h : Hq} {H : Hs}, PenOk p h → HsOk H → ∃ (cs : List (List Int)) (h' : Hq), cs ≠ [] ∧ List.Sublist cs (contM H.sz) ∧ Pn p h h' ∧ cl "_law_set" [.ref p, dHs H] h = .ok (.tup (cs.map tD)) h'
theorem setS (pt : PenT T) (tc : look T "_law_contents" = some ⟨"_law_contents", 1, 6, lawContB⟩) (tb : look T "_law_set" = some ⟨"_law_set", 2, 5, setB⟩) : SetS (callN T w (k + 3)) := fun o ok => set_ok (w := w) (k := k) pt tc tb ok o
def AskedS (cl : Cl) (name : Str) : Prop := ∀ {h : Hq} {H : Hs} {c : List Int}, HsOk H → Cok H.sz c → callPu cl name [dHs H, tD c] h = .ok (.tup [.tup ((asks_ H c).map Rx.nat), .int (answ H c)]) h
theorem askedS {name : Str} (tb : look T name = some ⟨name, 2, 4, askedB⟩) (hw : 13 ≤ w) : AskedS (callN T w (k + 1)) name := fun ok co => asked_pu (w := w) (k := k) tb ok co hw
def VerdS (cl : Cl) (name : Str) (b : Bool) : Prop := ∀ {h : Hq} {H : Hs} {cs : List (List Int)}, HsOk H → (∀ c ∈ cs, Cok H.sz c) → cs.length < 64 → callPu cl name [dHs H, sqD b (cs.map tD)] h = .ok (dOpt (verd H cs)) h
theorem verdS {name asks : Str} (tb : look T name = some ⟨name, 2, 4, verdictB asks⟩) (ta : look T asks = some ⟨asks, 2, 4, askedB⟩) (hw : 13 ≤ w) : VerdS (callN T w (k + 2)) name true := fun ok co l => verdict_ok (w := w) (k := k) tb ta ok co (by omega) hw
theorem lawVerdS {name asks : Str} {b : Bool} (tb : look T name = some ⟨name, 2, 4, lawVerdB asks⟩) (ta : look T asks = some ⟨asks, 2, 4, askedB⟩) (hw : 13 ≤ w) : VerdS (callN T w (k + 2)) name b := fun ok co l => lawVerd_ok (w := w) (k := k) tb ta ok co l hw
def PenS (cl : Cl) : Prop := ∀ ns : List Int, ∃ h, cl "_law_pen" [.slst (ns.map D.int)] [] = .ok (.ref 0) h ∧ PenOk 0 h
theorem penS (pt : PenT T) : PenS (callN T w (k + 1)) := fun ns => ⟨_, law_start pt ns⟩
end Rx

/-! RyO: enough cells: twins, pairs of contents. -/
namespace Rx
open PySem L2
variable {T : List Fn} {w k : Nat} {h h' h1 h2 : Hq} {cl : Cl} {p : Nat}
theorem ev_par2 {i j : Nat} {a b : E} {ρ : Ev} {d1 d2 : D} (e1 : evE cl a ρ h = .ok d1 h1) (e2 : evE cl b ρ h1 = .ok d2 h2) : evS cl w (.par [i, j] (.cons a (.cons b .nil))) ρ h = .nx ((ρ.set j (some d2)).set i (some d1)) h2 := by
  rw [evS, evEs, e1, R.bind_ok, evEs, e2]; rfl
theorem ev_par3 {i j l : Nat} {a b c : E} {ρ : Ev} {d1 d2 d3 : D} {h3 : Hq} (e1 : evE cl a ρ h = .ok d1 h1) (e2 : evE cl b ρ h1 = .ok d2 h2) (e3 : evE cl c ρ h2 = .ok d3 h3) : evS cl w (.par [i, j, l] (.cons a (.cons b (.cons c .nil)))) ρ h = .nx (((ρ.set l (some d3)).set j (some d2)).set i (some d1)) h3 := by
  rw [evS, evEs, e1, R.bind_ok, evEs, e2, R.bind_ok, evEs, e3]; rfl
theorem seq_rt1 {s : S} {ss : Ss} {ρ ρ1 : Ev} {h h1 : Hq} {d : D} (e : evS cl w s ρ h = .rt d ρ1 h1) : evSs cl w (.cons s ss) ρ h = .rt d ρ1 h1 := by rw [evSs, e]
/-- the cell's value -/
def cAt (c : List Int) (i : Nat) : Int := c.getD i 0
def seenM (cells : List Nat) (c : List Int) : List Int := cells.map (cAt c)
def dCells (cells : List Nat) : D := .tup (cells.map nat)
def CellsOk (H : Hs) (cells : List Nat) : Prop := cells.length ≤ 3 ∧ ∀ i ∈ cells, i < H.sz.length
theorem cAt_get {c : List Int} {i : Nat} (hi : i < c.length) : c[i]? = some (cAt c i) := by
  unfold cAt
  rw [List.getD_eq_getElem?_getD, List.getElem?_eq_getElem hi]; rfl
theorem ix_cell {sz c : List Int} {i : Nat} (co : Cok sz c) (hi : i < sz.length) : ixD h (tD c) (nat i) = some (.int (cAt c i)) :=
  ix_tup (ixM (cAt_get (by rw [co.1]; exact hi)))
mutual
theorem toKs_ints : ∀ a b : List Int, toKs (a.map D.int) = toKs (b.map D.int) → a = b
  | [], [], _ => rfl
  | [], _ :: _, e => by cases e
  | _ :: _, [], e => by cases e
  | x :: a, y :: b, e => by
    rw [List.map_cons, List.map_cons, toKs, toKs] at e
    injection e with e1 e2
    rw [toK, toK] at e1
    injection e1 with e1
    rw [e1, toKs_ints a b e2]
end
theorem tD_key (a b : List Int) : toK (tD a) = toK (tD b) ↔ a = b := by
  constructor
  · intro e
    rw [tD, tD, toK, toK] at e
    injection e with e
    exact toKs_ints a b e
  · rintro rfl; rfl
theorem tD_keyOk (c : List Int) : keyOk 8 (tD c) = true := by
  show (c.map D.int).all (keyOk 7) = true
  rw [List.all_map, List.all_eq_true]
  intro x _; rfl
theorem fit_tD {ks : List (List Int)} (c : List Int) : keyFit (ks.map tD) (tD c) = true := by
  unfold keyFit
  have : (ks.map tD).all isTup = true := by rw [List.all_map, List.all_eq_true]; intro x _; rfl
  rw [this, tD_keyOk]
  show (false && _ || true && true && true) = true
  rw [Bool.false_and]; rfl

/-! ### two contents that agree and answer otherwise -/
/-- the first of the contents that were seen so -/
def twGo (H : Hs) (cells : List Nat) : List (List Int × List Int) → List (List Int) → Option (List Int × List Int)
  | _, [] => none
  | ps, c :: cs => match ps.find? fun p => decide (p.1 = seenM cells c) with
    | some p => if answ H p.2 = answ H c then twGo H cells ps cs else some (p.2, c)
    | none => twGo H cells (ps ++ [(seenM cells c, c)]) cs
def twinsM (H : Hs) (cells : List Nat) (cs : List (List Int)) : Option (List Int × List Int) := twGo H cells [] cs
def dPair (p : List Int × List Int) : D := .tup [tD p.1, tD p.2]
def dTw : Option (List Int × List Int) → D
  | some p => dPair p
  | none => .non
def twK (ps : List (List Int × List Int)) : List D := (ps.map (·.1)).map tD
def twV (H : Hs) (ps : List (List Int × List Int)) : List D := ps.map fun p => .tup [tD p.2, .int (answ H p.2)]
theorem tw_get (H : Hs) (s : List Int) : ∀ ps : List (List Int × List Int), dgetK (twK ps) (twV H ps) (tD s) = (ps.find? fun p => decide (p.1 = s)).map fun p => .tup [tD p.2, .int (answ H p.2)]
  | [] => rfl
  | p :: ps => by
    have ih := tw_get H s ps
    unfold twK twV at ih ⊢
    rw [List.map_cons, List.map_cons, List.map_cons, dgetK, List.find?_cons]
    by_cases e : p.1 = s
    · rw [if_pos ((tD_key _ _).mpr e), decide_eq_true e]; rfl
    · rw [if_neg (fun z => e ((tD_key _ _).mp z)), decide_eq_false e]; exact ih
theorem tw_put (H : Hs) (s c : List Int) {ps : List (List Int × List Int)} (n : (ps.find? fun p => decide (p.1 = s)) = none) : dput (twK ps) (twV H ps) (tD s) (.tup [tD c, .int (answ H c)]) = (twK (ps ++ [(s, c)]), twV H (ps ++ [(s, c)])) := by
  unfold dput
  have : ((twK ps).any fun q => decide (toK q = toK (tD s))) = false := by
    rw [List.any_eq_false]
    intro q m
    unfold twK at m
    rw [List.map_map] at m
    obtain ⟨p, mp, rfl⟩ := List.mem_map.mp m
    have := List.find?_eq_none.mp n p mp
    simp only [decide_eq_true_eq] at this ⊢
    intro z
    exact this ((tD_key _ _).mp z)
  rw [this, if_neg (by decide)]
  unfold twK twV
  simp
def twT0 : S := .par [5, 6] (.cons (.b1 .tuple (.lc (.sq (.var 2)) (.nm 7) (.c (.bl true)) (.ix (.var 4) (.var 7)))) (.cons (.ix (.call .pu "asked" (.cons (.var 0) (.cons (.var 4) .nil))) (.c (.int 1))) .nil))
def twT1 : S := .ite (.and_ (.cmp .in_ (.var 5) (.var 3)) (.cmp .ne (.ix (.ix (.var 3) (.var 5)) (.c (.int 1))) (.var 6))) (.cons (.ret (.tup (.cons (.ix (.ix (.var 3) (.var 5)) (.c (.int 0))) (.cons (.var 4) .nil)))) .nil) .nil
def twT2 : S := .ex (.bm .setdefault (.var 3) (.cons (.var 5) (.cons (.tup (.cons (.var 4) (.cons (.var 6) .nil))) .nil)))
def twinsB : Ss :=
  .cons (.asg (.nm 3) .dctM) <|
  .cons (.for_ (.sq (.var 1)) (.nm 4) (.cons twT0 (.cons twT1 (.cons twT2 .nil)))) <|
  .cons (.ret (.c .non)) .nil
theorem in_dct {p : Nat} {ks vs : List D} {d : D} (e : h[p]? = some (.dct ks vs)) (f : keyFit ks d = true) : cmpD h .in_ d (.ref p) = some (dgetK ks vs d).isSome := by
  have v : view h (.ref p) = .dct ks vs := by
    show (match h[p]? with
      | some (.lst xs) => D.lst xs
      | some (.dct ks vs) => D.dct ks vs
      | _ => D.ref p) = _
    rw [e]
  have : cmpD h .in_ d (.ref p) = inD h d (.ref p) := by unfold cmpD; split <;> first | rfl | contradiction
  rw [this]
  unfold inD
  rw [v]
  dsimp only
  rw [if_pos f]
theorem ix_dct {p : Nat} {ks vs : List D} {d : D} (e : h[p]? = some (.dct ks vs)) (f : keyFit ks d = true) : ixD h (.ref p) d = dgetK ks vs d := by
  have v : view h (.ref p) = .dct ks vs := by
    show (match h[p]? with
      | some (.lst xs) => D.lst xs
      | some (.dct ks vs) => D.dct ks vs
      | _ => D.ref p) = _
    rw [e]
  unfold ixD
  rw [v]
  dsimp only
  rw [if_pos f]
theorem dctAt_r {p : Nat} {ks vs : List D} (e : h[p]? = some (.dct ks vs)) : dctAt h (.ref p) = some (ks, vs) := by
  show (match h[p]? with
    | some (.dct ks vs) => some (ks, vs)
    | _ => none) = _
  rw [e]
theorem setd_r {p : Nat} {ks vs : List D} {d x : D} (e : h[p]? = some (.dct ks vs)) (f : keyFit ks d = true) (l : ks.length ≤ 100000) : bmOk h .setdefault (.ref p) = true ∧
    bmD h .setdefault (.ref p) [d, x] = match dgetK ks vs d with
      | some v => .ok v h
      | none => .ok x (h.set p (.dct (dput ks vs d x).1 (dput ks vs d x).2)) := by
  have z := dctAt_r e
  refine ⟨by show (dctAt h (.ref p)).isSome = true; rw [z]; rfl, ?_⟩
  show (match dctAt h (.ref p) with
    | some kv => if keyFit kv.1 d && decide (kv.1.length < sizeLine) then (match dgetK kv.1 kv.2 d with
      | some v => R.ok v h
      | none => .ok x (h.set p (.dct (dput kv.1 kv.2 d x).1 (dput kv.1 kv.2 d x).2))) else .er
    | none => .er) = _
  rw [z]
  dsimp only
  rw [f, decide_eq_true (small_size l)]; rfl
theorem lc_seen {cl : Cl} {sz c : List Int} {cells : List Nat} {ρ : Ev} {i j t : Nat} (co : Cok sz c) (hc : cells.length ≤ 1000) (hi : ∀ i ∈ cells, i < sz.length) (e1 : ρ[i]? = some (some (dCells cells))) (e2 : ∀ z, (wipeE ρ [t]).set t (some z) = ρ.set t (some z) ∧ (ρ.set t (some z))[j]? = some (some (tD c)) ∧ (ρ.set t (some z))[t]? = some (some z)) :
    evE cl (.b1 .tuple (.lc (.sq (.var i)) (.nm t) (.c (.bl true)) (.ix (.var j) (.var t)))) ρ h = .ok (tD (seenM cells c)) h := by
  have it : evIt cl (.sq (.var i)) ρ h = .ok (none, cells.map nat) h := by
    rw [evIt, evE, e1]; rfl
  have l := lcL_map (asg := fun d h => evT cl (.nm t) d (wipeE ρ [t]) h) (cond := fun ρ h => tst (evE cl (.c (.bl true)) ρ h)) (x := fun ρ h => evE cl (.ix (.var j) (.var t)) ρ h) nat (fun _ => true) (fun i => .int (cAt c i)) h cells (fun i m => by
    refine ⟨ρ.set t (some (nat i)), ?_, rfl, fun _ => ?_⟩
    · show R.ok ((wipeE ρ [t]).set t (some (nat i))) h = _
      rw [(e2 _).1]
    · have z := ix_cell (h := h) co (hi i m)
      rw [evE, evE, (e2 _).2.1]
      dsimp only
      rw [R.bind_ok, evE, (e2 _).2.2]
      dsimp only
      rw [R.bind_ok, z]; rfl)
  rw [evE, ev_lc it (fits_small (by rw [List.length_map]; omega)) l, R.bind_ok, tuple_l, filtT]
  unfold seenM tD
  rw [List.map_map]; rfl
theorem tw_loop (A : AskedS cl "asked") {H : Hs} {cells : List Nat} {S0 : D} (ok : HsOk H) (co_ : CellsOk H cells) : ∀ (cs : List (List Int)) (ps : List (List Int × List Int)) (x4 x5 x6 : Option D), (∀ c ∈ cs, Cok H.sz c) → ps.length + cs.length ≤ 1000 →
    match twGo H cells ps cs with
    | none => ∃ x4' x5' x6' ps', forL none (fun d ρ h => evT cl (.nm 4) d ρ h) (fun ρ h => evSs cl w (.cons twT0 (.cons twT1 (.cons twT2 .nil))) ρ h) (cs.map tD) [some (dHs H), some S0, some (dCells cells), some (.ref 0), x4, x5, x6, none] [.dct (twK ps) (twV H ps)] =
        .nx [some (dHs H), some S0, some (dCells cells), some (.ref 0), x4', x5', x6', none] [.dct (twK ps') (twV H ps')]
    | some q => ∃ ρ h', forL none (fun d ρ h => evT cl (.nm 4) d ρ h) (fun ρ h => evSs cl w (.cons twT0 (.cons twT1 (.cons twT2 .nil))) ρ h) (cs.map tD) [some (dHs H), some S0, some (dCells cells), some (.ref 0), x4, x5, x6, none] [.dct (twK ps) (twV H ps)] = .rt (dPair q) ρ h'
  | [], ps, x4, x5, x6, _, _ => ⟨x4, x5, x6, ps, rfl⟩
  | c :: cs, ps, x4, x5, x6, co, hl => by
    have cc := co c (List.mem_cons_self ..)
    have a1 := A (h := [.dct (twK ps) (twV H ps)]) ok cc
    have s0 : evS cl w twT0 [some (dHs H), some S0, some (dCells cells), some (.ref 0), some (tD c), x5, x6, none] [.dct (twK ps) (twV H ps)] =
        .nx [some (dHs H), some S0, some (dCells cells), some (.ref 0), some (tD c), some (tD (seenM cells c)), some (.int (answ H c)), none] [.dct (twK ps) (twV H ps)] := by
      refine ev_par2 (lc_seen cc (by have := co_.1; omega) co_.2 rfl fun z => ⟨rfl, rfl, rfl⟩) ?_
      simp only [evSs, evS, evE, evEs, evT, evTs, evIt, R.bind_ok, R.of_some, Out.of_ok, R.nox, tst, Option.map_some, Option.map, List.getElem?_cons_zero, List.getElem?_cons_succ, List.set_cons_zero, List.set_cons_succ, tru_bl, add_ii, sub_ii, lt_ii, ge_ii, int_i, if_true, if_false, Bool.false_eq_true, Bool.not_true, Bool.not_false, callD, a1, ixT1]
    have ft : keyFit (twK ps) (tD (seenM cells c)) = true := fit_tD _
    have i1 := in_dct (h := [.dct (twK ps) (twV H ps)]) (p := 0) (vs := twV H ps) rfl ft
    have i2 := ix_dct (h := [.dct (twK ps) (twV H ps)]) (p := 0) (vs := twV H ps) rfl ft
    have lk : (twK ps).length ≤ 100000 := by
      unfold twK
      rw [List.length_map, List.length_map]
      have := hl
      rw [List.length_cons] at this
      omega
    obtain ⟨b1, b2⟩ := setd_r (h := [.dct (twK ps) (twV H ps)]) (p := 0) (vs := twV H ps) (x := .tup [tD c, .int (answ H c)]) rfl ft lk
    rw [tw_get] at i1 i2 b2
    rw [List.map_cons]
    unfold twGo forL
    rw [if_pos (show unch none _ = true from rfl)]
    cases e : ps.find? fun p => decide (p.1 = seenM cells c) with
    | some q =>
      rw [e] at i1 i2 b2
      dsimp only [Option.map_some] at i1 i2 b2 ⊢
      have nei := ne_ii (h := [.dct (twK ps) (twV H ps)]) (answ H q.2) (answ H c)
      have c1 : tst (evE cl (.and_ (.cmp .in_ (.var 5) (.var 3)) (.cmp .ne (.ix (.ix (.var 3) (.var 5)) (.c (.int 1))) (.var 6))) [some (dHs H), some S0, some (dCells cells), some (.ref 0), some (tD c), some (tD (seenM cells c)), some (.int (answ H c)), none] [.dct (twK ps) (twV H ps)]) =
          .ok (!decide (answ H q.2 = answ H c)) [.dct (twK ps) (twV H ps)] := by
        simp only [evSs, evS, evE, evEs, evT, evTs, evIt, R.bind_ok, R.of_some, Out.of_ok, R.nox, tst, Option.map_some, Option.map, List.getElem?_cons_zero, List.getElem?_cons_succ, List.set_cons_zero, List.set_cons_succ, tru_bl, add_ii, sub_ii, lt_ii, ge_ii, int_i, if_true, if_false, Bool.false_eq_true, Bool.not_true, Bool.not_false, i1, i2, ixT1, nei, Option.isSome_some]
      by_cases ea : answ H q.2 = answ H c
      · rw [if_pos ea]
        rw [decide_eq_true ea] at c1
        have s1 : evS cl w twT1 [some (dHs H), some S0, some (dCells cells), some (.ref 0), some (tD c), some (tD (seenM cells c)), some (.int (answ H c)), none] [.dct (twK ps) (twV H ps)] =
          .nx [some (dHs H), some S0, some (dCells cells), some (.ref 0), some (tD c), some (tD (seenM cells c)), some (.int (answ H c)), none] [.dct (twK ps) (twV H ps)] := (ev_if c1).trans rfl
        have s2 : evS cl w twT2 [some (dHs H), some S0, some (dCells cells), some (.ref 0), some (tD c), some (tD (seenM cells c)), some (.int (answ H c)), none] [.dct (twK ps) (twV H ps)] =
          .nx [some (dHs H), some S0, some (dCells cells), some (.ref 0), some (tD c), some (tD (seenM cells c)), some (.int (answ H c)), none] [.dct (twK ps) (twV H ps)] := by
          refine ev_ex (d := .tup [tD q.2, .int (answ H q.2)]) ?_
          simp only [evSs, evS, evE, evEs, evT, evTs, evIt, R.bind_ok, R.of_some, Out.of_ok, R.nox, tst, Option.map_some, Option.map, List.getElem?_cons_zero, List.getElem?_cons_succ, List.set_cons_zero, List.set_cons_succ, tru_bl, add_ii, sub_ii, lt_ii, ge_ii, int_i, if_true, if_false, Bool.false_eq_true, Bool.not_true, Bool.not_false, b1, b2]
        have body : evSs cl w (.cons twT0 (.cons twT1 (.cons twT2 .nil))) [some (dHs H), some S0, some (dCells cells), some (.ref 0), some (tD c), x5, x6, none] [.dct (twK ps) (twV H ps)] = _ := (seq_nx s0).trans ((seq_nx s1).trans (seq_one s2))
        have ih := tw_loop A (S0 := S0) ok co_ cs ps (some (tD c)) (some (tD (seenM cells c))) (some (.int (answ H c))) (fun x m => co x (List.mem_cons_of_mem _ m)) (by rw [List.length_cons] at hl; omega)
        show match twGo H cells ps cs with
          | none => ∃ x4' x5' x6' ps', Out.of (R.ok _ _) _ _ = _
          | some q => ∃ ρ h', Out.of (R.ok _ _) _ _ = _
        rw [Out.of_ok]
        dsimp only [List.set_cons_succ, List.set_cons_zero]
        rw [body]
        exact ih
      · rw [if_neg ea]
        rw [decide_eq_false ea] at c1
        have s1 : evS cl w twT1 [some (dHs H), some S0, some (dCells cells), some (.ref 0), some (tD c), some (tD (seenM cells c)), some (.int (answ H c)), none] [.dct (twK ps) (twV H ps)] =
          .rt (dPair (q.2, c)) [some (dHs H), some S0, some (dCells cells), some (.ref 0), some (tD c), some (tD (seenM cells c)), some (.int (answ H c)), none] [.dct (twK ps) (twV H ps)] := by
          refine (ev_if c1).trans ?_
          simp only [evSs, evS, evE, evEs, evT, evTs, evIt, R.bind_ok, R.of_some, Out.of_ok, R.nox, tst, Option.map_some, Option.map, List.getElem?_cons_zero, List.getElem?_cons_succ, List.set_cons_zero, List.set_cons_succ, tru_bl, add_ii, sub_ii, lt_ii, ge_ii, int_i, if_true, if_false, Bool.false_eq_true, Bool.not_true, Bool.not_false, i2, ixT0]
          rfl
        have body : evSs cl w (.cons twT0 (.cons twT1 (.cons twT2 .nil))) [some (dHs H), some S0, some (dCells cells), some (.ref 0), some (tD c), x5, x6, none] [.dct (twK ps) (twV H ps)] = _ := (seq_nx s0).trans (seq_rt1 s1)
        refine ⟨[some (dHs H), some S0, some (dCells cells), some (.ref 0), some (tD c), some (tD (seenM cells c)), some (.int (answ H c)), none], [.dct (twK ps) (twV H ps)], ?_⟩
        show Out.of (R.ok _ _) _ _ = _
        rw [Out.of_ok]
        dsimp only [List.set_cons_succ, List.set_cons_zero]
        rw [body]
    | none =>
      rw [e] at i1 i2 b2
      dsimp only [Option.map_none] at i1 i2 b2 ⊢
      have c1 : tst (evE cl (.and_ (.cmp .in_ (.var 5) (.var 3)) (.cmp .ne (.ix (.ix (.var 3) (.var 5)) (.c (.int 1))) (.var 6))) [some (dHs H), some S0, some (dCells cells), some (.ref 0), some (tD c), some (tD (seenM cells c)), some (.int (answ H c)), none] [.dct (twK ps) (twV H ps)]) =
          .ok false [.dct (twK ps) (twV H ps)] := by
        simp only [evSs, evS, evE, evEs, evT, evTs, evIt, R.bind_ok, R.of_some, Out.of_ok, R.nox, tst, Option.map_some, Option.map, List.getElem?_cons_zero, List.getElem?_cons_succ, List.set_cons_zero, List.set_cons_succ, tru_bl, add_ii, sub_ii, lt_ii, ge_ii, int_i, if_true, if_false, Bool.false_eq_true, Bool.not_true, Bool.not_false, i1, Option.isSome_none]
      have s1 : evS cl w twT1 [some (dHs H), some S0, some (dCells cells), some (.ref 0), some (tD c), some (tD (seenM cells c)), some (.int (answ H c)), none] [.dct (twK ps) (twV H ps)] =
          .nx [some (dHs H), some S0, some (dCells cells), some (.ref 0), some (tD c), some (tD (seenM cells c)), some (.int (answ H c)), none] [.dct (twK ps) (twV H ps)] := (ev_if c1).trans rfl
      rw [tw_put H _ c e] at b2
      have s2 : evS cl w twT2 [some (dHs H), some S0, some (dCells cells), some (.ref 0), some (tD c), some (tD (seenM cells c)), some (.int (answ H c)), none] [.dct (twK ps) (twV H ps)] =
          .nx [some (dHs H), some S0, some (dCells cells), some (.ref 0), some (tD c), some (tD (seenM cells c)), some (.int (answ H c)), none] [.dct (twK (ps ++ [(seenM cells c, c)])) (twV H (ps ++ [(seenM cells c, c)]))] := by
        refine ev_ex (d := .tup [tD c, .int (answ H c)]) ?_
        simp only [evSs, evS, evE, evEs, evT, evTs, evIt, R.bind_ok, R.of_some, Out.of_ok, R.nox, tst, Option.map_some, Option.map, List.getElem?_cons_zero, List.getElem?_cons_succ, List.set_cons_zero, List.set_cons_succ, tru_bl, add_ii, sub_ii, lt_ii, ge_ii, int_i, if_true, if_false, Bool.false_eq_true, Bool.not_true, Bool.not_false, b1, b2]
      have body : evSs cl w (.cons twT0 (.cons twT1 (.cons twT2 .nil))) [some (dHs H), some S0, some (dCells cells), some (.ref 0), some (tD c), x5, x6, none] [.dct (twK ps) (twV H ps)] = _ := (seq_nx s0).trans ((seq_nx s1).trans (seq_one s2))
      have ih := tw_loop A (S0 := S0) ok co_ cs (ps ++ [(seenM cells c, c)]) (some (tD c)) (some (tD (seenM cells c))) (some (.int (answ H c))) (fun x m => co x (List.mem_cons_of_mem _ m)) (by rw [List.length_cons] at hl; rw [List.length_append]; simp; omega)
      show match twGo H cells (ps ++ [(seenM cells c, c)]) cs with
        | none => ∃ x4' x5' x6' ps', Out.of (R.ok _ _) _ _ = _
        | some q => ∃ ρ h', Out.of (R.ok _ _) _ _ = _
      rw [Out.of_ok]
      dsimp only [List.set_cons_succ, List.set_cons_zero]
      rw [body]
      exact ih
def TwinsS (cl : Cl) : Prop := ∀ {h : Hq} {H : Hs} {cs : List (List Int)} {cells : List Nat}, HsOk H → (∀ c ∈ cs, Cok H.sz c) → cs.length ≤ 1000 → CellsOk H cells → callPu cl "twins" [dHs H, .tup (cs.map tD), dCells cells] h = .ok (dTw (twinsM H cells cs)) h
theorem fz_cells (cells : List Nat) : Fz (dCells cells) := by
  show fzN 20 (.tup (cells.map nat)) = true
  rw [fzN]; exact fzNs_map fun c _ => fz_nat c
theorem fz_tDs (cs : List (List Int)) : Fz (.tup (cs.map tD)) := by
  show fzN 20 (.tup (cs.map tD)) = true
  rw [fzN]; exact fzNs_map fun c _ => fz_tD c
theorem fz_pair (q : List Int × List Int) : Fz (dPair q) := by
  show fzN 20 (.tup [tD q.1, tD q.2]) = true
  simp [fzN, fzNs, fz_tD]
theorem twinsS (tb : look T "twins" = some ⟨"twins", 3, 8, twinsB⟩) (A : AskedS (callN T w k) "asked") : TwinsS (callN T w (k + 1)) := by
  intro h H cs cells ok co hl cell
  refine pu_run (f := ⟨"twins", 3, 8, twinsB⟩) tb rfl ?_ (fun d m => ?_)
  · show outFrz (evSs (callN T w k) w twinsB [some (dHs H), some (.tup (cs.map tD)), some (dCells cells), none, none, none, none, none] []) = _
    have L := tw_loop A (w := w) (S0 := .tup (cs.map tD)) ok cell cs [] none none none co (by simpa using hl)
    have s0 : evS (callN T w k) w (.asg (.nm 3) .dctM) [some (dHs H), some (.tup (cs.map tD)), some (dCells cells), none, none, none, none, none] [] = .nx [some (dHs H), some (.tup (cs.map tD)), some (dCells cells), some (.ref 0), none, none, none, none] [.dct (twK []) (twV H [])] := rfl
    rw [twinsB, seq_nx s0]
    unfold twinsM
    cases e : twGo H cells [] cs with
    | none =>
      rw [e] at L
      obtain ⟨x4, x5, x6, ps, L⟩ := L
      rw [seq_nx (ev_for rfl L)]; rfl
    | some q =>
      rw [e] at L
      obtain ⟨ρ, h', L⟩ := L
      rw [seq_rt1 (ev_for rfl L)]
      exact (fz_pair q).frz _ _ (by decide)
  · simp only [List.mem_cons, List.mem_nil_iff, or_false] at m
    rcases m with rfl | rfl | rfl
    · exact fz_dHs ok
    · exact fz_tDs cs
    · exact fz_cells cells
def EnoughS (cl : Cl) : Prop := ∀ {h : Hq} {H : Hs} {cs : List (List Int)} {cells : List Nat}, HsOk H → (∀ c ∈ cs, Cok H.sz c) → cs.length ≤ 1000 → CellsOk H cells → callPu cl "is_enough" [dHs H, .tup (cs.map tD), dCells cells] h = .ok (.bl (twinsM H cells cs).isNone) h
def enoughB : Ss := .cons (.ret (.cmp .is_ (.call .pu "twins" (.cons (.var 0) (.cons (.var 1) (.cons (.var 2) .nil)))) (.c .non))) .nil
theorem enoughS (tb : look T "is_enough" = some ⟨"is_enough", 3, 3, enoughB⟩) (A : TwinsS (callN T w k)) : EnoughS (callN T w (k + 1)) := by
  intro h H cs cells ok co hl cell
  refine pu_run (f := ⟨"is_enough", 3, 3, enoughB⟩) tb rfl ?_ (fun d m => ?_)
  · show outFrz (evSs (callN T w k) w enoughB [some (dHs H), some (.tup (cs.map tD)), some (dCells cells)] []) = _
    have a := A (h := []) ok co hl cell
    have is_ : cmpD [] .is_ (dTw (twinsM H cells cs)) .non = some (twinsM H cells cs).isNone := by cases twinsM H cells cs <;> rfl
    have r : evS (callN T w k) w (.ret (.cmp .is_ (.call .pu "twins" (.cons (.var 0) (.cons (.var 1) (.cons (.var 2) .nil)))) (.c .non))) [some (dHs H), some (.tup (cs.map tD)), some (dCells cells)] [] = .rt (.bl (twinsM H cells cs).isNone) [some (dHs H), some (.tup (cs.map tD)), some (dCells cells)] [] := by
      refine ev_ret ?_
      simp only [evSs, evS, evE, evEs, evT, evTs, evIt, R.bind_ok, R.of_some, Out.of_ok, R.nox, tst, Option.map_some, Option.map, List.getElem?_cons_zero, List.getElem?_cons_succ, List.set_cons_zero, List.set_cons_succ, tru_bl, add_ii, sub_ii, lt_ii, ge_ii, int_i, if_true, if_false, Bool.false_eq_true, Bool.not_true, Bool.not_false, callD, a, is_]
    rw [enoughB, seq_rt1 r]
    rfl
  · simp only [List.mem_cons, List.mem_nil_iff, or_false] at m
    rcases m with rfl | rfl | rfl
    · exact fz_dHs ok
    · exact fz_tDs cs
    · exact fz_cells cells
/-! ### all pairs -/
def differ (H : Hs) (cells : List Nat) (a b : List Int) : Bool := decide (seenM cells a = seenM cells b) && !decide (answ H a = answ H b)
def pairsM (H : Hs) (cells : List Nat) : List (List Int) → List (List Int × List Int)
  | [] => []
  | a :: r => (r.filter (differ H cells a)).map (fun b => (a, b)) ++ pairsM H cells r
theorem mem_pairs {H : Hs} {cells : List Nat} {a b : List Int} : ∀ {l1 l2 l3 : List (List Int)}, differ H cells a b = true → (a, b) ∈ pairsM H cells (l1 ++ a :: (l2 ++ b :: l3))
  | [], l2, l3, d => by
    show (a, b) ∈ ((l2 ++ b :: l3).filter (differ H cells a)).map (fun b => (a, b)) ++ _
    refine List.mem_append_left _ (List.mem_map.mpr ⟨b, List.mem_filter.mpr ⟨by simp, d⟩, rfl⟩)
  | x :: l1, l2, l3, d => by
    show (a, b) ∈ _ ++ pairsM H cells (l1 ++ a :: (l2 ++ b :: l3))
    exact List.mem_append_right _ (mem_pairs d)
theorem of_pairs {H : Hs} {cells : List Nat} {a b : List Int} : ∀ {l : List (List Int)}, (a, b) ∈ pairsM H cells l → ∃ l1 l2 l3, l = l1 ++ a :: (l2 ++ b :: l3) ∧ differ H cells a b = true
  | [], m => by cases m
  | x :: r, m => by
    rcases List.mem_append.mp m with m | m
    · obtain ⟨y, my, e⟩ := List.mem_map.mp m
      injection e with e1 e2
      subst e1 e2
      obtain ⟨mf, d⟩ := List.mem_filter.mp my
      obtain ⟨l2, l3, rfl⟩ := List.append_of_mem mf
      exact ⟨[], l2, l3, rfl, d⟩
    · obtain ⟨l1, l2, l3, rfl, d⟩ := of_pairs m
      exact ⟨x :: l1, l2, l3, rfl, d⟩
/-- what the dict holds of what was seen -/
structure TwI (H : Hs) (cells : List Nat) (pre : List (List Int)) (ps : List (List Int × List Int)) : Prop where
  mem : ∀ p ∈ ps, p.2 ∈ pre ∧ p.1 = seenM cells p.2
  has : ∀ c ∈ pre, ∃ p, ps.find? (fun p => decide (p.1 = seenM cells c)) = some p ∧ answ H p.2 = answ H c
theorem twGo_ok {H : Hs} {cells : List Nat} : ∀ (cs pre : List (List Int)) (ps : List (List Int × List Int)), TwI H cells pre ps →
    match twGo H cells ps cs with
    | none => ∃ ps', TwI H cells (pre ++ cs) ps'
    | some q => q ∈ pairsM H cells (pre ++ cs)
  | [], pre, ps, I => ⟨ps, by rw [List.append_nil]; exact I⟩
  | c :: cs, pre, ps, I => by
    have e3 : pre ++ c :: cs = pre ++ [c] ++ cs := by simp
    unfold twGo
    cases e : ps.find? fun p => decide (p.1 = seenM cells c) with
    | some p =>
      dsimp only
      have pm := List.mem_of_find?_eq_some e
      have pe : p.1 = seenM cells c := by simpa using List.find?_some e
      obtain ⟨m1, m2⟩ := I.mem p pm
      by_cases ea : answ H p.2 = answ H c
      · rw [if_pos ea, e3]
        refine twGo_ok cs (pre ++ [c]) ps ⟨fun q m => ⟨List.mem_append_left _ (I.mem q m).1, (I.mem q m).2⟩, fun x m => ?_⟩
        rcases List.mem_append.mp m with m | m
        · exact I.has x m
        · rw [List.mem_singleton.mp m]; exact ⟨p, e, ea⟩
      · rw [if_neg ea]
        obtain ⟨l1, l2, rfl⟩ := List.append_of_mem m1
        rw [List.append_assoc, List.cons_append]
        refine mem_pairs ?_
        unfold differ
        rw [decide_eq_true (m2.symm.trans pe), decide_eq_false ea]; rfl
    | none =>
      dsimp only
      rw [e3]
      refine twGo_ok cs (pre ++ [c]) _ ⟨fun q m => ?_, fun x m => ?_⟩
      · rcases List.mem_append.mp m with m | m
        · exact ⟨List.mem_append_left _ (I.mem q m).1, (I.mem q m).2⟩
        · rw [List.mem_singleton.mp m]
          exact ⟨List.mem_append_right _ (List.mem_singleton_self _), rfl⟩
      · rcases List.mem_append.mp m with m | m
        · obtain ⟨p, e1, e2⟩ := I.has x m
          exact ⟨p, by rw [List.find?_append, e1]; rfl, e2⟩
        · rw [List.mem_singleton.mp m]
          refine ⟨(seenM cells c, c), ?_, rfl⟩
          rw [List.find?_append, e]
          simp
theorem twI_none {H : Hs} {cells : List Nat} {cs : List (List Int)} {ps : List (List Int × List Int)} (I : TwI H cells cs ps) : pairsM H cells cs = [] := by
  cases e : pairsM H cells cs with
  | nil => rfl
  | cons q l =>
    obtain ⟨a, b⟩ := q
    obtain ⟨l1, l2, l3, rfl, d⟩ := of_pairs (l := cs) (a := a) (b := b) (by rw [e]; exact List.mem_cons_self ..)
    unfold differ at d
    rw [Bool.and_eq_true, Bool.not_eq_true', decide_eq_true_eq, decide_eq_false_iff_not] at d
    obtain ⟨p1, f1, g1⟩ := I.has a (by simp)
    obtain ⟨p2, f2, g2⟩ := I.has b (by simp)
    rw [d.1, f2] at f1
    cases f1
    exact (d.2 (g1.symm.trans g2)).elim
theorem twins_none {H : Hs} {cells : List Nat} {cs : List (List Int)} : twinsM H cells cs = none ↔ pairsM H cells cs = [] := by
  have := twGo_ok (H := H) (cells := cells) cs [] [] ⟨(fun p m => nomatch m), fun c m => nomatch m⟩
  unfold twinsM
  cases e : twGo H cells [] cs with
  | none =>
    rw [e] at this
    obtain ⟨ps, I⟩ := this
    exact ⟨fun _ => twI_none I, fun _ => rfl⟩
  | some q =>
    rw [e] at this
    refine ⟨(fun z => nomatch z), fun z => ?_⟩
    have this : q ∈ pairsM H cells cs := this
    rw [z] at this; cases this
theorem twins_mem {H : Hs} {cells : List Nat} {cs : List (List Int)} {q : List Int × List Int} (e : twinsM H cells cs = some q) : q ∈ pairsM H cells cs := by
  have := twGo_ok (H := H) (cells := cells) cs [] [] ⟨(fun p m => nomatch m), fun c m => nomatch m⟩
  unfold twinsM at e
  rw [e] at this
  exact this

/-! ### the law's own pairs -/
theorem eq_emp {xs : List D} (p : xs.all (plain 59) = true) : cmpD h .eq (.lst xs) (.lst []) = some xs.isEmpty := by
  show (if plain 60 (.lst xs) && plain 60 (.lst []) then some (eqv (.lst xs) (.lst [])) else none) = _
  have p1 : plain 60 (.lst xs) = true := p
  rw [p1, show plain 60 (.lst []) = true from rfl]
  show some (eqv (.lst xs) (.lst [])) = _
  unfold eqv
  cases xs with
  | nil => rfl
  | cons x xs => simp [toP, toPs, PyData.eqv, PyData.eqvAll]
theorem ne_emp {xs : List D} (p : xs.all (plain 59) = true) : cmpD h .ne (.lst xs) (.lst []) = some (!xs.isEmpty) := by
  show (eqD h (.lst xs) (.lst [])).map (!·) = _
  rw [show eqD h (.lst xs) (.lst []) = cmpD h .eq (.lst xs) (.lst []) from rfl, eq_emp p]; rfl
theorem plain_pair (q : List Int × List Int) (n : Nat) : plain (n + 2) (dPair q) = true := by
  show ([tD q.1, tD q.2].all (plain (n + 1))) = true
  simp [plain_tD]
def tpS0 : S := .asg (.nm 7) (.cmp .eq (.lc (.sq (.var 2)) (.nm 8) (.cmp .ne (.ix (.var 5) (.var 8)) (.ix (.var 6) (.var 8))) (.var 8)) (.lstF .nil))
def tpS1 : S := .ite (.and_ (.var 7) (.cmp .ne (.ix (.call .pu "_law_answer" (.cons (.var 0) (.cons (.var 5) .nil))) (.c (.int 1))) (.ix (.call .pu "_law_answer" (.cons (.var 0) (.cons (.var 6) .nil))) (.c (.int 1))))) (.cons (.ex (.bm .append (.var 3) (.cons (.tup (.cons (.var 5) (.cons (.var 6) .nil))) .nil))) .nil) .nil
def tpI : Ss := .cons tpS0 (.cons tpS1 .nil)
def tpL : S := .for_ (.sq (.slc (.var 1) (.bin .add (.var 4) (.c (.int 1))) (.c .hole))) (.nm 6) tpI
def pairsB : Ss :=
  .cons (.asg (.nm 3) (.lstM .nil)) <|
  .cons (.for_ (.enum (.var 1)) (.tp (.cons (.nm 4) (.cons (.nm 5) .nil))) (.cons tpL .nil)) <|
  .cons (.ret (.var 3)) .nil
def agr (cells : List Nat) (a b : List Int) : List Nat := cells.filter fun i => !decide (cAt a i = cAt b i)
theorem agr_nil {a b : List Int} : ∀ {cells : List Nat}, (agr cells a b).isEmpty = decide (seenM cells a = seenM cells b)
  | [] => rfl
  | i :: cells => by
    have ih := agr_nil (a := a) (b := b) (cells := cells)
    unfold agr seenM at ih ⊢
    rw [List.filter_cons, List.map_cons, List.map_cons]
    by_cases e : cAt a i = cAt b i
    · rw [decide_eq_true e, if_neg (by decide), ih]
      simp [e]
    · rw [decide_eq_false e, if_pos (by decide)]
      simp [e]
theorem tp_in (A : AskedS cl "_law_answer") {H : Hs} {cells : List Nat} {S0 x4 : D} (ok : HsOk H) (co_ : CellsOk H cells) {a : List Int} (ca : Cok H.sz a) : ∀ (bs : List (List Int)) (acc : List (List Int × List Int)) (x6 x7 : Option D), (∀ b ∈ bs, Cok H.sz b) → acc.length + bs.length ≤ 10000 →
    ∃ x6' x7', forL none (fun d ρ h => evT cl (.nm 6) d ρ h) (fun ρ h => evSs cl w tpI ρ h) (bs.map tD) [some (dHs H), some S0, some (dCells cells), some (.ref 0), some x4, some (tD a), x6, x7, none] [.lst (acc.map dPair)] =
      .nx [some (dHs H), some S0, some (dCells cells), some (.ref 0), some x4, some (tD a), x6', x7', none] [.lst ((acc ++ (bs.filter (differ H cells a)).map fun b => (a, b)).map dPair)]
  | [], acc, x6, x7, _, _ => ⟨x6, x7, by rw [List.filter_nil, List.map_nil, List.map_nil, List.append_nil]; rfl⟩
  | b :: bs, acc, x6, x7, co, hl => by
    have cb := co b (List.mem_cons_self ..)
    have a1 := A (h := [.lst (acc.map dPair)]) ok ca
    have a2 := A (h := [.lst (acc.map dPair)]) ok cb
    have lc : evE cl (.lc (.sq (.var 2)) (.nm 8) (.cmp .ne (.ix (.var 5) (.var 8)) (.ix (.var 6) (.var 8))) (.var 8)) [some (dHs H), some S0, some (dCells cells), some (.ref 0), some x4, some (tD a), some (tD b), x7, none] [.lst (acc.map dPair)] =
        .ok (.lst ((agr cells a b).map nat)) [.lst (acc.map dPair)] := by
      refine ev_lc (s := none) (xs := cells.map nat) rfl (fits_small (by rw [List.length_map]; have := co_.1; omega)) ?_
      refine lcL_map (f := nat) (p := fun i => !decide (cAt a i = cAt b i)) (g := nat) (h := [.lst (acc.map dPair)]) cells (fun i m => ?_)
      · have z1 := ix_cell (h := [.lst (acc.map dPair)]) ca (co_.2 i m)
        have z2 := ix_cell (h := [.lst (acc.map dPair)]) cb (co_.2 i m)
        have ne := ne_ii (h := [.lst (acc.map dPair)]) (cAt a i) (cAt b i)
        refine ⟨[some (dHs H), some S0, some (dCells cells), some (.ref 0), some x4, some (tD a), some (tD b), x7, some (nat i)], rfl, ?_, fun _ => rfl⟩
        simp only [evSs, evS, evE, evEs, evT, evTs, evIt, R.bind_ok, R.of_some, Out.of_ok, R.nox, tst, Option.map_some, Option.map, List.getElem?_cons_zero, List.getElem?_cons_succ, List.set_cons_zero, List.set_cons_succ, tru_bl, add_ii, sub_ii, lt_ii, ge_ii, int_i, if_true, if_false, Bool.false_eq_true, Bool.not_true, Bool.not_false, z1, z2, ne]
    have em := eq_emp (h := [.lst (acc.map dPair)]) (xs := (agr cells a b).map nat) (by rw [List.all_map, List.all_eq_true]; intro x _; rfl)
    rw [List.isEmpty_map, agr_nil] at em
    have s0 : evS cl w tpS0 [some (dHs H), some S0, some (dCells cells), some (.ref 0), some x4, some (tD a), some (tD b), x7, none] [.lst (acc.map dPair)] =
        .nx [some (dHs H), some S0, some (dCells cells), some (.ref 0), some x4, some (tD a), some (tD b), some (.bl (decide (seenM cells a = seenM cells b))), none] [.lst (acc.map dPair)] := by
      refine ev_asg ?_
      rw [evE, lc]
      simp only [evSs, evS, evE, evEs, evT, evTs, evIt, R.bind_ok, R.of_some, Out.of_ok, R.nox, tst, Option.map_some, Option.map, List.getElem?_cons_zero, List.getElem?_cons_succ, List.set_cons_zero, List.set_cons_succ, tru_bl, add_ii, sub_ii, lt_ii, ge_ii, int_i, if_true, if_false, Bool.false_eq_true, Bool.not_true, Bool.not_false, em]
    have ne := ne_ii (h := [.lst (acc.map dPair)]) (answ H a) (answ H b)
    have c1 : tst (evE cl (.and_ (.var 7) (.cmp .ne (.ix (.call .pu "_law_answer" (.cons (.var 0) (.cons (.var 5) .nil))) (.c (.int 1))) (.ix (.call .pu "_law_answer" (.cons (.var 0) (.cons (.var 6) .nil))) (.c (.int 1))))) [some (dHs H), some S0, some (dCells cells), some (.ref 0), some x4, some (tD a), some (tD b), some (.bl (decide (seenM cells a = seenM cells b))), none] [.lst (acc.map dPair)]) =
        .ok (differ H cells a b) [.lst (acc.map dPair)] := by
      unfold differ
      simp only [evSs, evS, evE, evEs, evT, evTs, evIt, R.bind_ok, R.of_some, Out.of_ok, R.nox, tst, Option.map_some, Option.map, List.getElem?_cons_zero, List.getElem?_cons_succ, List.set_cons_zero, List.set_cons_succ, tru_bl, add_ii, sub_ii, lt_ii, ge_ii, int_i, if_true, if_false, Bool.false_eq_true, Bool.not_true, Bool.not_false, callD, a1, a2, ixT1, ne]
      cases decide (seenM cells a = seenM cells b) <;> rfl
    rw [List.map_cons, List.filter_cons]
    unfold forL
    rw [if_pos (show unch none _ = true from rfl)]
    show ∃ x6' x7', Out.of (R.ok _ _) _ _ = _
    rw [Out.of_ok]
    dsimp only [List.set_cons_succ, List.set_cons_zero]
    cases df : differ H cells a b with
    | false =>
      rw [df] at c1
      have body : evSs cl w tpI [some (dHs H), some S0, some (dCells cells), some (.ref 0), some x4, some (tD a), some (tD b), x7, none] [.lst (acc.map dPair)] = _ := (seq_nx s0).trans (seq_one ((ev_if c1).trans rfl))
      rw [body, if_neg (by decide)]
      exact tp_in A ok co_ ca bs acc _ _ (fun x m => co x (List.mem_cons_of_mem _ m)) (by rw [List.length_cons] at hl; omega)
    | true =>
      rw [df] at c1
      obtain ⟨b1, b2⟩ := append_r (h := [.lst (acc.map dPair)]) (p := 0) (x := .tup [tD a, tD b]) rfl (by rw [List.length_map]; exact small_size (by rw [List.length_cons] at hl; omega))
      have s1 : evS cl w tpS1 [some (dHs H), some S0, some (dCells cells), some (.ref 0), some x4, some (tD a), some (tD b), some (.bl (decide (seenM cells a = seenM cells b))), none] [.lst (acc.map dPair)] =
          .nx [some (dHs H), some S0, some (dCells cells), some (.ref 0), some x4, some (tD a), some (tD b), some (.bl (decide (seenM cells a = seenM cells b))), none] [.lst ((acc ++ [(a, b)]).map dPair)] := by
        refine (ev_if c1).trans ?_
        rw [if_pos rfl]
        refine seq_one (ev_ex (d := .non) ?_)
        simp only [evSs, evS, evE, evEs, evT, evTs, evIt, R.bind_ok, R.of_some, Out.of_ok, R.nox, tst, Option.map_some, Option.map, List.getElem?_cons_zero, List.getElem?_cons_succ, List.set_cons_zero, List.set_cons_succ, tru_bl, add_ii, sub_ii, lt_ii, ge_ii, int_i, if_true, if_false, Bool.false_eq_true, Bool.not_true, Bool.not_false, b1, b2]
        rw [List.map_append]; rfl
      have body : evSs cl w tpI [some (dHs H), some S0, some (dCells cells), some (.ref 0), some x4, some (tD a), some (tD b), x7, none] [.lst (acc.map dPair)] = _ := (seq_nx s0).trans (seq_one s1)
      rw [body, if_pos rfl]
      have ih := tp_in (S0 := S0) (x4 := x4) A ok co_ ca bs (acc ++ [(a, b)]) (some (tD b)) (some (.bl (decide (seenM cells a = seenM cells b)))) (fun x m => co x (List.mem_cons_of_mem _ m)) (by rw [List.length_cons] at hl; rw [List.length_append]; simp; omega)
      rw [List.append_assoc] at ih
      exact ih
theorem pairs_len (H : Hs) (cells : List Nat) : ∀ l : List (List Int), (pairsM H cells l).length ≤ l.length * l.length
  | [] => Nat.le_refl _
  | a :: r => by
    have ih := pairs_len H cells r
    have h1 := List.length_filter_le (differ H cells a) r
    show ((r.filter (differ H cells a)).map (fun b => (a, b)) ++ pairsM H cells r).length ≤ _
    rw [List.length_append, List.length_map, List.length_cons, Nat.mul_succ, Nat.succ_mul]
    omega
theorem slc_from {xs : List D} {i : Nat} : slcD h (.tup xs) (.int ((i : Int) + 1)) .hole = some (.tup (xs.drop (i + 1))) := by
  show ((clip xs.length 0 (.int ((i : Int) + 1))).bind fun l => (clip xs.length xs.length .hole).map fun u => D.tup ((xs.take u).drop l)) = _
  have e : clip xs.length 0 (.int ((i : Int) + 1)) = some (min (i + 1) xs.length) := by
    unfold clip
    dsimp only
    rw [if_pos (by omega)]
    congr 1
  rw [e]
  show some (D.tup ((xs.take xs.length).drop (min (i + 1) xs.length))) = _
  rw [List.take_length]
  congr 2
  by_cases l : i + 1 ≤ xs.length
  · rw [Nat.min_eq_left l]
  · rw [Nat.min_eq_right (by omega), List.drop_length, List.drop_eq_nil_of_le (by omega)]
theorem tp_out (A : AskedS cl "_law_answer") {H : Hs} {cells : List Nat} {cs : List (List Int)} (ok : HsOk H) (co_ : CellsOk H cells) (co : ∀ c ∈ cs, Cok H.sz c) (hl : cs.length ≤ 50) : ∀ (r : List (List Int)) (i : Nat) (acc : List (List Int × List Int)) (x4 x5 x6 x7 : Option D), cs.drop i = r → i + r.length = cs.length → acc.length ≤ 100 * i →
    ∃ x4' x5' x6' x7', forL none (fun d ρ h => evT cl (.tp (.cons (.nm 4) (.cons (.nm 5) .nil))) d ρ h) (fun ρ h => evSs cl w (.cons tpL .nil) ρ h) (enumFrom i (r.map tD)) [some (dHs H), some (.tup (cs.map tD)), some (dCells cells), some (.ref 0), x4, x5, x6, x7, none] [.lst (acc.map dPair)] =
      .nx [some (dHs H), some (.tup (cs.map tD)), some (dCells cells), some (.ref 0), x4', x5', x6', x7', none] [.lst ((acc ++ pairsM H cells r).map dPair)]
  | [], i, acc, x4, x5, x6, x7, _, _, _ => ⟨x4, x5, x6, x7, by unfold pairsM; rw [List.append_nil]; rfl⟩
  | a :: r, i, acc, x4, x5, x6, x7, ed, el, ha => by
    have ma : ∀ c ∈ a :: r, c ∈ cs := fun c m => List.mem_of_mem_drop (i := i) (by rw [ed]; exact m)
    have dr : cs.drop (i + 1) = r := by rw [← List.drop_drop, ed]; rfl
    rw [List.length_cons] at el
    obtain ⟨y6, y7, L⟩ := tp_in (w := w) (S0 := .tup (cs.map tD)) (x4 := .int (i : Int)) A ok co_ (co a (ma a (List.mem_cons_self ..))) r acc x6 x7 (fun b m => co b (ma b (List.mem_cons_of_mem _ m))) (by omega)
    have fl := List.length_filter_le (differ H cells a) r
    obtain ⟨z4, z5, z6, z7, L2⟩ := tp_out A ok co_ co hl r (i + 1) (acc ++ (r.filter (differ H cells a)).map fun b => (a, b)) (some (.int (i : Int))) (some (tD a)) y6 y7 dr (by omega) (by rw [List.length_append, List.length_map]; omega)
    refine ⟨z4, z5, z6, z7, ?_⟩
    rw [List.map_cons, enumFrom]
    unfold forL
    rw [if_pos (show unch none _ = true from rfl)]
    show Out.of (R.ok _ _) _ _ = _
    rw [Out.of_ok]
    dsimp only [List.set_cons_succ, List.set_cons_zero]
    have it : evIt cl (.sq (.slc (.var 1) (.bin .add (.var 4) (.c (.int 1))) (.c .hole))) [some (dHs H), some (.tup (cs.map tD)), some (dCells cells), some (.ref 0), some (.int (i : Int)), some (tD a), x6, x7, none] [.lst (acc.map dPair)] = .ok (none, r.map tD) [.lst (acc.map dPair)] := by
      have sl := slc_from (h := [.lst (acc.map dPair)]) (xs := cs.map tD) (i := i)
      rw [← List.map_drop, dr] at sl
      simp only [evSs, evS, evE, evEs, evT, evTs, evIt, R.bind_ok, R.of_some, Out.of_ok, R.nox, tst, Option.map_some, Option.map, List.getElem?_cons_zero, List.getElem?_cons_succ, List.set_cons_zero, List.set_cons_succ, tru_bl, add_ii, sub_ii, lt_ii, ge_ii, int_i, if_true, if_false, Bool.false_eq_true, Bool.not_true, Bool.not_false, partB, sl]
      rfl
    have body : evSs cl w (.cons tpL .nil) [some (dHs H), some (.tup (cs.map tD)), some (dCells cells), some (.ref 0), some (.int (i : Int)), some (tD a), x6, x7, none] [.lst (acc.map dPair)] = _ := seq_one (ev_for it L)
    rw [body]
    have e : acc ++ pairsM H cells (a :: r) = (acc ++ (r.filter (differ H cells a)).map fun b => (a, b)) ++ pairsM H cells r := by
      show acc ++ ((r.filter (differ H cells a)).map (fun b => (a, b)) ++ pairsM H cells r) = _
      rw [List.append_assoc]
    rw [e]
    exact L2
def PairsS (cl : Cl) : Prop := ∀ {h : Hq} {H : Hs} {cs : List (List Int)} {cells : List Nat}, HsOk H → (∀ c ∈ cs, Cok H.sz c) → cs.length ≤ 50 → CellsOk H cells → callPu cl "_law_twin_pairs" [dHs H, .tup (cs.map tD), dCells cells] h = .ok (.lst ((pairsM H cells cs).map dPair)) h
theorem pairsS (tb : look T "_law_twin_pairs" = some ⟨"_law_twin_pairs", 3, 9, pairsB⟩) (A : AskedS (callN T w k) "_law_answer") : PairsS (callN T w (k + 1)) := by
  intro h H cs cells ok co hl cell
  refine pu_run (f := ⟨"_law_twin_pairs", 3, 9, pairsB⟩) tb rfl ?_ (fun d m => ?_)
  · show outFrz (evSs (callN T w k) w pairsB [some (dHs H), some (.tup (cs.map tD)), some (dCells cells), none, none, none, none, none, none] []) = _
    obtain ⟨x4, x5, x6, x7, L⟩ := tp_out A (w := w) ok cell co hl cs 0 [] none none none none rfl (by omega) (by simp)
    have s0 : evS (callN T w k) w (.asg (.nm 3) (.lstM .nil)) [some (dHs H), some (.tup (cs.map tD)), some (dCells cells), none, none, none, none, none, none] [] = .nx [some (dHs H), some (.tup (cs.map tD)), some (dCells cells), some (.ref 0), none, none, none, none, none] [.lst (([] : List (List Int × List Int)).map dPair)] := rfl
    rw [pairsB, seq_nx s0, seq_nx (ev_for rfl L)]
    rw [List.nil_append, seq_rt1 (ev_ret (d := .ref 0) rfl)]
    show frz 0 [.lst ((pairsM H cells cs).map dPair)] 60 (.ref 0) = _
    exact frzs_lst (n := 59) (p := 0) (xs := (pairsM H cells cs).map dPair) rfl (fzNs_map fun q _ => fzN_mono (fz_pair q) (by decide))
  · simp only [List.mem_cons, List.mem_nil_iff, or_false] at m
    rcases m with rfl | rfl | rfl
    · exact fz_dHs ok
    · exact fz_tDs cs
    · exact fz_cells cells
/-- all tuples of cells -/
def cellsM (n : Nat) : List (List Nat) := (List.range n).foldl (fun found c => found ++ found.map fun cs => cs ++ [c]) [[]]
def CellsS (cl : Cl) : Prop := ∀ {h : Hq} {H : Hs}, HsOk H → callPu cl "_law_all_cells" [dHs H] h = .ok (.lst ((cellsM H.sz.length).map dCells)) h
def allCellsB : Ss :=
  .cons (.asg (.nm 1) (.lstF (.cons (.tup .nil) .nil))) <|
  .cons (.for_ (.rng (.cons (.b1 .len (.ix (.var 0) (.c (.int 0)))) .nil)) (.nm 2) (.cons (.asg (.nm 1) (.bin .add (.var 1) (.lc (.sq (.var 1)) (.nm 3) (.c (.bl true)) (.bin .add (.var 3) (.tup (.cons (.var 2) .nil)))))) .nil)) <|
  .cons (.ret (.var 1)) .nil
theorem cellsS (tb : look T "_law_all_cells" = some ⟨"_law_all_cells", 1, 4, allCellsB⟩) : CellsS (callN T w (k + 1)) := by
  intro h H ok
  refine pu_run (f := ⟨"_law_all_cells", 1, 4, allCellsB⟩) tb rfl ?_ (fun d m => by rw [List.mem_singleton.mp m]; exact fz_dHs ok)
  show outFrz (evSs (callN T w k) w allCellsB [some (dHs H), none, none, none] []) = _
  have key := sz_cases ok
  obtain ⟨sz, nd, dd⟩ := H
  clear ok
  dsimp only at key ⊢
  rcases key with rfl | rfl | rfl | rfl | rfl | rfl | rfl | rfl | rfl <;> kernel_rfl
theorem cellsM_ok {H : Hs} (ok : HsOk H) : ∀ c ∈ cellsM H.sz.length, CellsOk H c := by
  have key : ∀ n, n ≤ 3 → ∀ c ∈ cellsM n, c.length ≤ 3 ∧ ∀ i ∈ c, i < n := by
    intro n hn
    have : n = 0 ∨ n = 1 ∨ n = 2 ∨ n = 3 := by omega
    rcases this with rfl | rfl | rfl | rfl <;> decide +kernel
  exact key _ ok.sz1

/-! ### some house -/
def SomeS (cl : Cl) (name : Str) : Prop := ∀ {p : Nat} {h : Hq}, PenOk p h → ∃ (H : Hs) (h' : Hq), HsOk H ∧ Pn p h h' ∧ cl name [.ref p] h = .ok (dHs H) h'
def someB : Ss :=
  .cons (.par [1, 2] (.cons (.ix (.lstF (.cons (.c (.int 3)) (.cons (.c (.int 4)) (.cons (.c (.int 5)) (.cons (.c (.int 6)) (.cons (.c (.int 7)) (.cons (.c (.int 12)) .nil))))))) (.call .ef "_law_draw" (.cons (.var 0) (.cons (.c (.int 6)) .nil)))) (.cons (.ix (.lstF (.cons (.c (.int 0)) (.cons (.c (.int 1)) (.cons (.c (.int 2)) (.cons (.c (.int 3)) (.cons (.c (.int 6)) .nil)))))) (.call .ef "_law_draw" (.cons (.var 0) (.cons (.c (.int 5)) .nil)))) .nil))) <|
  .cons (.ret (.call .ef "_law_house" (.cons (.var 0) (.cons (.call .ef "_law_sizes" (.cons (.var 0) .nil)) (.cons (.var 1) (.cons (.var 2) (.cons (.c (.int 3)) .nil))))))) .nil
theorem someS {name : Str} (tb : look T name = some ⟨name, 1, 3, someB⟩) (Dr : DrawS (callN T w k)) (Sz : SizesS (callN T w k)) (Ho : HouseS (callN T w k)) : SomeS (callN T w (k + 1)) name := by
  intro p h pn
  obtain ⟨a, h1, a1, p1, q1⟩ := DrawS.nat Dr pn (n := 6) (by decide) (by decide)
  obtain ⟨b, h2, b1, p2, q2⟩ := DrawS.nat Dr p1.pen (n := 5) (by decide) (by decide)
  obtain ⟨sz, h3, so, p3, q3⟩ := Sz p2.pen
  have n1 : ∃ n : Nat, 1 ≤ n ∧ n ≤ 12 ∧ ixD h1 (.lst [.int 3, .int 4, .int 5, .int 6, .int 7, .int 12]) (.int (a : Int)) = some (nat n) := by
    have : a = 0 ∨ a = 1 ∨ a = 2 ∨ a = 3 ∨ a = 4 ∨ a = 5 := by omega
    rcases this with rfl | rfl | rfl | rfl | rfl | rfl
    · exact ⟨3, by omega, by omega, ix_lst (i := 0) rfl⟩
    · exact ⟨4, by omega, by omega, ix_lst (i := 1) rfl⟩
    · exact ⟨5, by omega, by omega, ix_lst (i := 2) rfl⟩
    · exact ⟨6, by omega, by omega, ix_lst (i := 3) rfl⟩
    · exact ⟨7, by omega, by omega, ix_lst (i := 4) rfl⟩
    · exact ⟨12, by omega, by omega, ix_lst (i := 5) rfl⟩
  have n2 : ∃ n : Nat, n ≤ 6 ∧ ixD h2 (.lst [.int 0, .int 1, .int 2, .int 3, .int 6]) (.int (b : Int)) = some (nat n) := by
    have : b = 0 ∨ b = 1 ∨ b = 2 ∨ b = 3 ∨ b = 4 := by omega
    rcases this with rfl | rfl | rfl | rfl | rfl
    · exact ⟨0, by omega, ix_lst (i := 0) rfl⟩
    · exact ⟨1, by omega, ix_lst (i := 1) rfl⟩
    · exact ⟨2, by omega, ix_lst (i := 2) rfl⟩
    · exact ⟨3, by omega, ix_lst (i := 3) rfl⟩
    · exact ⟨6, by omega, ix_lst (i := 4) rfl⟩
  obtain ⟨n1, l1, l2, i1⟩ := n1
  obtain ⟨n2, l3, i2⟩ := n2
  obtain ⟨H, h4, ok, -, -, -, -, p4, q4⟩ := Ho p3.pen so (nodes := n1) (deeds := n2) (steps := 3) l1 l2 l3 (by omega)
  refine ⟨H, h4, ok, ((p1.trans p2).trans p3).trans p4, ?_⟩
  refine call_rt (f := ⟨name, 1, 3, someB⟩) (ρ := [some (.ref p), some (nat n1), some (nat n2)]) tb rfl ?_
  show evSs (callN T w k) w someB [some (.ref p), none, none] h = _
  have s0 : evS (callN T w k) w (.par [1, 2] (.cons (.ix (.lstF (.cons (.c (.int 3)) (.cons (.c (.int 4)) (.cons (.c (.int 5)) (.cons (.c (.int 6)) (.cons (.c (.int 7)) (.cons (.c (.int 12)) .nil))))))) (.call .ef "_law_draw" (.cons (.var 0) (.cons (.c (.int 6)) .nil)))) (.cons (.ix (.lstF (.cons (.c (.int 0)) (.cons (.c (.int 1)) (.cons (.c (.int 2)) (.cons (.c (.int 3)) (.cons (.c (.int 6)) .nil)))))) (.call .ef "_law_draw" (.cons (.var 0) (.cons (.c (.int 5)) .nil)))) .nil)))
      [some (.ref p), none, none] h = .nx [some (.ref p), some (nat n1), some (nat n2)] h2 := by
    refine ev_par2 (d1 := nat n1) (d2 := nat n2) (h1 := h1) ?_ ?_
    · simp only [evSs, evS, evE, evEs, evT, evTs, evIt, R.bind_ok, R.of_some, Out.of_ok, R.nox, tst, Option.map_some, Option.map, List.getElem?_cons_zero, List.getElem?_cons_succ, List.set_cons_zero, List.set_cons_succ, tru_bl, add_ii, sub_ii, lt_ii, ge_ii, int_i, if_true, if_false, Bool.false_eq_true, Bool.not_true, Bool.not_false, callD, q1, i1]
    · simp only [evSs, evS, evE, evEs, evT, evTs, evIt, R.bind_ok, R.of_some, Out.of_ok, R.nox, tst, Option.map_some, Option.map, List.getElem?_cons_zero, List.getElem?_cons_succ, List.set_cons_zero, List.set_cons_succ, tru_bl, add_ii, sub_ii, lt_ii, ge_ii, int_i, if_true, if_false, Bool.false_eq_true, Bool.not_true, Bool.not_false, callD, q2, i2]
  rw [someB, seq_nx s0]
  refine seq_rt1 (ev_ret ?_)
  simp only [evSs, evS, evE, evEs, evT, evTs, evIt, R.bind_ok, R.of_some, Out.of_ok, R.nox, tst, Option.map_some, Option.map, List.getElem?_cons_zero, List.getElem?_cons_succ, List.set_cons_zero, List.set_cons_succ, tru_bl, add_ii, sub_ii, lt_ii, ge_ii, int_i, if_true, if_false, Bool.false_eq_true, Bool.not_true, Bool.not_false, callD, q3]
  exact q4
theorem okW_two {n W W' : Nat} {a b : D} (o1 : OkW n W a) (o2 : OkW n W' b) : OkW (n + 1) (W + W' + 2) (.tup [a, b]) := by
  refine ⟨?_, ?_, ?_⟩
  · simp only [plain, List.all_eq_true]
    intro x m
    simp only [List.mem_cons, List.mem_nil_iff, or_false] at m
    rcases m with rfl | rfl
    · exact o1.pl
    · exact o2.pl
  · show smls [a, b] = true
    rw [smls, smls, smls, o1.sm, o2.sm]; rfl
  · show PyData.weight (.tuple (toPs [a, b])) ≤ _
    rw [PyData.weight, toPs, toPs, toPs, PyData.weightAll, PyData.weightAll, PyData.weightAll]
    have := o1.wt
    have := o2.wt
    omega
theorem cok_bd {H : Hs} (ok : HsOk H) {c : List Int} (co : Cok H.sz c) : ∀ x ∈ c, 0 ≤ x ∧ x ≤ 3 := by
  intro x m
  obtain ⟨i, hi, rfl⟩ := List.mem_iff_getElem.mp m
  have hi2 : i < H.sz.length := by rw [← co.1]; exact hi
  obtain ⟨a, b⟩ := co.2 i c[i] H.sz[i] (by simp [hi]) (by simp [hi2])
  have := ok.sz2 H.sz[i] (List.getElem_mem hi2)
  omega
theorem okW_cont {H : Hs} (ok : HsOk H) {c : List Int} (co : Cok H.sz c) : OkW 1 63 (tD c) := by
  refine okW_tD (L := 3) (fun x m => ?_) (by rw [co.1]; exact ok.sz1)
  have := cok_bd ok co x m
  omega
theorem okW_cs {H : Hs} (ok : HsOk H) {cs : List (List Int)} (co : ∀ c ∈ cs, Cok H.sz c) (hl : cs.length ≤ 8) : OkW 2 512 (.tup (cs.map tD)) :=
  okW_map (W := 63) (L := 8) (fun c m => okW_cont ok (co c m)) hl
theorem hs_cs_shw {H : Hs} (ok : HsOk H) {cs : List (List Int)} (co : ∀ c ∈ cs, Cok H.sz c) (hl : cs.length ≤ 8) : shw (.tup [dHs H, .tup (cs.map tD)]) = true :=
  (okW_two ok.okW ((okW_cs ok co hl).mono (by omega) (Nat.le_refl _))).shw (by omega) (by omega)
theorem pair_shw {H : Hs} (ok : HsOk H) {q : List Int × List Int} (c1 : Cok H.sz q.1) (c2 : Cok H.sz q.2) : shw (dPair q) = true :=
  (okW_two (okW_cont ok c1) (okW_cont ok c2)).shw (by omega) (by omega)

/-! ### texts of what is shown -/
theorem strOk_of (s : String) : PyData.strOk (Str.ofString s) = true := by
  unfold PyData.strOk Str.ofString
  rw [cpsOfBytes_string]
  simp only [List.all_toArray, List.all_map, List.all_eq_true, Function.comp, decide_eq_true_eq]
  intro c _
  have := c.valid
  have e : c.toNat = c.val.toNat := rfl
  rw [e]
  rcases this with h | ⟨_, h⟩
  · have := UInt32.toNat_lt c.val; omega
  · exact h
theorem strOk_app {a b : Str} (ha : PyData.strOk a = true) (hb : PyData.strOk b = true) : PyData.strOk (a ++ b) = true := by
  unfold PyData.strOk at ha hb ⊢
  show (a.cps ++ b.cps).all _ = true
  rw [Array.all_append, ha, hb]; rfl
theorem strOk_join {sep : Str} (hs : PyData.strOk sep = true) : ∀ ts : List Str, (∀ t ∈ ts, PyData.strOk t = true) → PyData.strOk (Str.join sep ts) = true
  | [], _ => strOk_of ""
  | [x], h => h x (List.mem_singleton_self _)
  | x :: y :: r, h => by
    show PyData.strOk (x ++ sep ++ Str.join sep (y :: r)) = true
    exact strOk_app (strOk_app (h x (List.mem_cons_self ..)) hs) (strOk_join hs (y :: r) fun t m => h t (List.mem_cons_of_mem _ m))
mutual
/-- no text within, nothing but tuples -/
def nst : D → Bool
  | .non => true
  | .bl _ => true
  | .int _ => true
  | .tup xs => nsts xs
  | _ => false
def nsts : List D → Bool
  | [] => true
  | x :: xs => nst x && nsts xs
end
mutual
theorem shown_ok : ∀ d : D, nst d = true → PyData.strOk (toP d).shown = true
  | .non, _ => by rw [toP, PyData.shown]; exact strOk_of "None"
  | .bl b, _ => by rw [toP, PyData.shown]; cases b <;> exact strOk_of _
  | .int i, _ => by rw [toP, PyData.shown]; exact strOk_of _
  | .tup xs, p => by
    rw [toP, PyData.shown]
    unfold tupleText
    exact strOk_app (strOk_app (strOk_of "(") (strOk_join (strOk_of ", ") _ (showns_ok xs (by simpa [nst] using p)))) (strOk_of _)
  | .str _, p => by simp [nst] at p
  | .lst _, p => by simp [nst] at p
  | .slst _, p => by simp [nst] at p
  | .dct _ _, p => by simp [nst] at p
  | .ref _, p => by simp [nst] at p
  | .clo _ _, p => by simp [nst] at p
  | .hole, p => by simp [nst] at p
theorem showns_ok : ∀ ds : List D, nsts ds = true → ∀ t ∈ PyData.shownAll (toPs ds), PyData.strOk t = true
  | [], _, t, m => by rw [toPs, PyData.shownAll] at m; cases m
  | d :: ds, p, t, m => by
    have p : nst d = true ∧ nsts ds = true := by simpa [nsts] using p
    rw [toPs, PyData.shownAll] at m
    rcases List.mem_cons.mp m with rfl | m
    · exact shown_ok d p.1
    · exact showns_ok ds p.2 t m
end
theorem nst_map {α : Type} {f : α → D} : ∀ {xs : List α}, (∀ x ∈ xs, nst (f x) = true) → nsts (xs.map f) = true
  | [], _ => rfl
  | x :: xs, h => by rw [List.map_cons, nsts, h x (List.mem_cons_self ..), nst_map fun y m => h y (List.mem_cons_of_mem _ m)]; rfl
theorem nst_tD (c : List Int) : nst (tD c) = true := by
  show nst (.tup (c.map D.int)) = true
  rw [nst]; exact nst_map fun _ _ => rfl
theorem nst_pair (q : List Int × List Int) : nst (dPair q) = true := by
  show nst (.tup [tD q.1, tD q.2]) = true
  simp [nst, nsts, nst_tD]
theorem notin_strs {α : Type} {f : α → D} {xs : List α} {q : α} (m : q ∈ xs) (n : ∀ x, nst (f x) = true) : cmpD h .notin (.str (shown (f q))) (.lst (xs.map fun x => .str (shown (f x)))) = some false := by
  have e : cmpD h .notin (.str (shown (f q))) (.lst (xs.map fun x => .str (shown (f x)))) = (inD h (.str (shown (f q))) (.lst (xs.map fun x => .str (shown (f x))))).map (!·) := rfl
  have pl : ∀ x, plain 60 (.str (shown (f x))) = true := fun x => shown_ok _ (n x)
  have all_ : (xs.map fun x => D.str (shown (f x))).all (plain 60) = true := by
    rw [List.all_map, List.all_eq_true]; exact fun x _ => pl x
  rw [e]
  show (if plain 60 (.str (shown (f q))) && (xs.map fun x => D.str (shown (f x))).all (plain 60) then some ((xs.map fun x => D.str (shown (f x))).any fun x => eqv x (.str (shown (f q)))) else none).map (!·) = _
  rw [pl, all_, Bool.and_self, if_pos rfl]
  have : ((xs.map fun x => D.str (shown (f x))).any fun x => eqv x (.str (shown (f q)))) = true := by
    rw [List.any_eq_true]
    refine ⟨_, List.mem_map.mpr ⟨q, m, rfl⟩, ?_⟩
    simp [eqv, toP, PyData.eqv]
  rw [this]; rfl
theorem turns_okM {l m : Nat} {ρ : Ev} {xs : List D} (e : ρ[0]? = some (some (.slst xs))) (hl : l ≤ 1000) (hm : m ≤ 1000) : ∃ n : Nat, n ≤ m + l ∧ evE cl (.b2 .max (.c (.int (l : Int))) (.b2 .min (.c (.int (m : Int))) (.b1 .len (.var 0)))) ρ h = .ok (.int (n : Int)) h := by
  have ln : b1D h .len (.slst xs) = .ok (.int (xs.length : Int)) h := rfl
  refine ⟨(if (if (xs.length : Int) < (m : Int) then (xs.length : Int) else (m : Int)) > (l : Int) then (if (xs.length : Int) < (m : Int) then (xs.length : Int) else (m : Int)) else (l : Int)).toNat, ?_, ?_⟩
  · split <;> split <;> omega
  · rw [evE, evE, R.bind_ok, evE, evE, R.bind_ok, evE, evE, e]
    dsimp only
    rw [R.bind_ok, ln, R.bind_ok]
    show R.bind (R.ok (D.int (if (xs.length : Int) < (m : Int) then (xs.length : Int) else (m : Int))) h) _ = _
    rw [R.bind_ok]
    show R.ok (D.int (if (if (xs.length : Int) < (m : Int) then (xs.length : Int) else (m : Int)) > (l : Int) then (if (xs.length : Int) < (m : Int) then (xs.length : Int) else (m : Int)) else (l : Int))) h = _
    congr 2
    split <;> split <;> omega
end Rx

/-! RyX: least sets of enough cells. -/
namespace Rx
open PySem L2
variable {T : List Fn} {w k : Nat} {h h' h1 h2 : Hq} {cl : Cl} {p q : Nat}
/-! ### sorts that the kernel can run -/
theorem ins_pre {α : Type} {le : α → α → Bool} (a : α) : ∀ (l1 l2 : List α), (∀ b ∈ l1, le a b = false) → ins le a (l1 ++ l2) = l1 ++ ins le a l2
  | [], _, _ => rfl
  | b :: l1, l2, h => by
    show (if le a b then a :: b :: (l1 ++ l2) else b :: ins le a (l1 ++ l2)) = _
    rw [h b (List.mem_cons_self ..), if_neg (by decide), ins_pre a l1 l2 fun c m => h c (List.mem_cons_of_mem _ m)]; rfl
theorem ms_srt {α : Type} {le : α → α → Bool} (tr : ∀ a b c, le a b = true → le b c = true → le a c = true) (tt : ∀ a b, (le a b || le b a) = true) : ∀ l : List α, l.mergeSort le = srt le l
  | [] => by simp [srt]
  | a :: l => by
    obtain ⟨l1, l2, e1, e2, e3⟩ := List.mergeSort_cons tr tt a l
    have ih := ms_srt tr tt l
    have sorted := List.pairwise_mergeSort tr tt (a :: l)
    rw [e1] at sorted
    have s2 := (List.pairwise_append.mp sorted).2.1
    rw [e1]
    show _ = ins le a (srt le l)
    rw [← ih, e2, ins_pre a l1 l2 fun b m => by have := e3 b m; simpa using this]
    congr 1
    cases l2 with
    | nil => rfl
    | cons c l2 =>
      have := (List.pairwise_cons.mp s2).1 c (List.mem_cons_self ..)
      show _ = (if le a c then a :: c :: l2 else c :: ins le a l2)
      rw [this, if_pos rfl]
theorem gsort_eq (xs : List D) : gsort xs = srt (PySem.W.dataLe false toP) xs := by
  have t := PySem.W.sortLe_total (PyProof.Rows.listOrd PyProof.Rows.itemOrd) false fun d : D => PySem.W.keyToks (toP d)
  exact ms_srt t.trans (fun a b => Bool.or_eq_true_iff.mpr (t.total a b)) xs
theorem slsort_eq (xs : List D) : slsort xs = srt (PySem.W.dataLe false klen) xs := by
  have t := PySem.W.sortLe_total (PyProof.Rows.listOrd PyProof.Rows.itemOrd) false fun d : D => PySem.W.keyToks (klen d)
  exact ms_srt t.trans (fun a b => Bool.or_eq_true_iff.mpr (t.total a b)) xs
/-! ### the least sets -/
def Ln (n : Nat) : List (List Nat) := match n with
  | 1 => [[], [0]]
  | 2 => [[], [0], [1], [0, 1]]
  | _ => [[], [0], [1], [2], [0, 1], [0, 2], [1, 2], [0, 1, 2]]
theorem cells_sl : slsort ((cellsM 1).map dCells) = (Ln 1).map dCells ∧ slsort ((cellsM 2).map dCells) = (Ln 2).map dCells ∧ slsort ((cellsM 3).map dCells) = (Ln 3).map dCells := by
  rw [slsort_eq, slsort_eq, slsort_eq]
  exact ⟨by kernel_rfl, by kernel_rfl, by kernel_rfl⟩
def subB (a b : List Nat) : Bool := a.all fun c => decide (c ∈ b)
/-- what the program keeps -/
def progM (g : List Nat → Bool) (L : List (List Nat)) : List (List Nat) := L.foldl (fun found c => if !(found.any fun l => subB l c) && g c then found ++ [c] else found) []
/-- each with one cell less -/
def lessM (c : List Nat) : List (List Nat) := (List.range c.length).map fun i => c.take i ++ c.drop (i + 1)
/-- what the law keeps -/
def leastM (good : List (List Nat)) : List (List Nat) := good.filter fun c => (lessM c).all fun l => !decide (l ∈ good)
/-- a predicate on the sets of cells, from its values -/
def ofBits (L : List (List Nat)) (bs : List Bool) (c : List Nat) : Bool := ((L.zip bs).find? fun p => decide (p.1 = c)).map (·.2) == some true
def allBits : Nat → List (List Bool)
  | 0 => [[]]
  | n + 1 => (allBits n).map (true :: ·) ++ (allBits n).map (false :: ·)
theorem mem_bits : ∀ bs : List Bool, bs ∈ allBits bs.length
  | [] => by simp [allBits]
  | true :: bs => List.mem_append_left _ (List.mem_map.mpr ⟨bs, mem_bits bs, rfl⟩)
  | false :: bs => List.mem_append_right _ (List.mem_map.mpr ⟨bs, mem_bits bs, rfl⟩)
def monoB (L : List (List Nat)) (g : List Nat → Bool) : Bool := L.all fun a => L.all fun b => !(subB a b && g a) || g b
def leC (a b : List Nat) : Bool := PySem.W.dataLe false toP (dCells a) (dCells b)
def sameB (n m : Nat) : Bool := (allBits m).all fun bs => !(monoB (Ln n) (ofBits (Ln n) bs)) ||
  decide (srt leC (progM (ofBits (Ln n) bs) (Ln n)) = srt leC (leastM ((cellsM n).filter (ofBits (Ln n) bs))))
theorem same1 : sameB 1 2 = true := by decide +kernel
theorem same2 : sameB 2 4 = true := by decide +kernel
theorem same3 : sameB 3 8 = true := by decide +kernel
theorem find_zip (g : List Nat → Bool) (c : List Nat) : ∀ L : List (List Nat), c ∈ L → (((L.zip (L.map g)).find? fun p => decide (p.1 = c)).map (·.2)) = some (g c)
  | [], m => nomatch m
  | a :: L, m => by
    rw [List.map_cons, List.zip_cons_cons, List.find?_cons]
    by_cases e : a = c
    · rw [decide_eq_true e, e]; rfl
    · rw [decide_eq_false e]
      rcases List.mem_cons.mp m with rfl | m
      · exact (e rfl).elim
      · exact find_zip g c L m
theorem ofBits_eq (g : List Nat → Bool) (L : List (List Nat)) (c : List Nat) (m : c ∈ L) : ofBits L (L.map g) c = g c := by
  unfold ofBits
  rw [find_zip g c L m]
  cases g c <;> rfl
theorem progM_eq {f g : List Nat → Bool} : ∀ (L found : List (List Nat)), (∀ c ∈ L, f c = g c) → L.foldl (fun found c => if !(found.any fun l => subB l c) && f c then found ++ [c] else found) found = L.foldl (fun found c => if !(found.any fun l => subB l c) && g c then found ++ [c] else found) found
  | [], _, _ => rfl
  | c :: L, found, h => by
    rw [List.foldl_cons, List.foldl_cons, h c (List.mem_cons_self ..)]
    exact progM_eq L _ fun d m => h d (List.mem_cons_of_mem _ m)
theorem same_all {n m : Nat} (sb : sameB n m = true) (hl : (Ln n).length = m) (sub : ∀ c ∈ cellsM n, c ∈ Ln n) (g : List Nat → Bool) (mono : ∀ a ∈ Ln n, ∀ b ∈ Ln n, subB a b = true → g a = true → g b = true) :
    srt leC (progM g (Ln n)) = srt leC (leastM ((cellsM n).filter g)) := by
  unfold sameB at sb
  rw [List.all_eq_true] at sb
  have mb : (Ln n).map g ∈ allBits m := by
    have := mem_bits ((Ln n).map g)
    rw [List.length_map, hl] at this; exact this
  have h := sb _ mb
  have eq := ofBits_eq g (Ln n)
  rw [Bool.or_eq_true, decide_eq_true_eq] at h
  have hm : monoB (Ln n) (ofBits (Ln n) ((Ln n).map g)) = true := by
    unfold monoB
    rw [List.all_eq_true]
    intro a ma
    rw [List.all_eq_true]
    intro b mb
    rw [eq a ma, eq b mb]
    cases s : subB a b with
    | false => rfl
    | true =>
      cases ga : g a with
      | false => rfl
      | true => rw [mono a ma b mb s ga]; rfl
  rw [hm] at h
  rcases h with h | h
  · cases h
  · have e1 : progM (ofBits (Ln n) ((Ln n).map g)) (Ln n) = progM g (Ln n) := progM_eq (Ln n) [] fun c mc => eq c mc
    have e2 : (cellsM n).filter (ofBits (Ln n) ((Ln n).map g)) = (cellsM n).filter g := List.filter_congr fun c mc => eq c (sub c mc)
    rw [e1, e2] at h
    exact h

/-! ### sorted, as the kernel can run it -/
def sortK (xs : List D) : Option (List D) := match allI xs with
  | some ns => some ((srtI ns).map .int)
  | none => (match allT xs with
    | some nss => if tupFit nss then some ((srtT nss).map fun ns => .tup (ns.map .int)) else if gsOk xs then some (srt (PySem.W.dataLe false toP) xs) else none
    | none => if gsOk xs then some (srt (PySem.W.dataLe false toP) xs) else none)
theorem sorted_K {o : D} {xs : List D} (v : view h o = .lst xs) : b1D h .sorted o = R.of ((sortK xs).map .lst) h := by
  show (match view h o with
    | .lst xs => (match allI xs with
      | some ns => R.ok (D.lst ((srtI ns).map .int)) h
      | none => (match allT xs with
        | some nss => if tupFit nss then R.ok (D.lst ((srtT nss).map fun ns : List Int => D.tup (ns.map D.int))) h else if gsOk xs then R.ok (D.lst (gsort xs)) h else R.er
        | none => if gsOk xs then R.ok (D.lst (gsort xs)) h else R.er))
    | _ => R.er) = _
  rw [v]
  dsimp only
  unfold sortK
  rw [← gsort_eq]
  cases allI xs with
  | some ns => rfl
  | none =>
    dsimp only
    cases allT xs with
    | some nss =>
      dsimp only
      by_cases a : tupFit nss = true
      · rw [if_pos a, if_pos a]; rfl
      · rw [if_neg a, if_neg a]
        by_cases b : gsOk xs = true
        · rw [if_pos b, if_pos b]; rfl
        · rw [if_neg b, if_neg b]; rfl
    | none =>
      dsimp only
      by_cases b : gsOk xs = true
      · rw [if_pos b, if_pos b]; rfl
      · rw [if_neg b, if_neg b]; rfl
/-- both sides sort to one list, whose text is allowed -/
def endB (xs ys : List D) : Bool := match sortK xs, sortK ys with
  | some a, some b => sames a b && shw (.tup a) && plain 60 (.tup a) && fzNs 10 a
  | _, _ => false
def sameD (n m : Nat) : Bool := (allBits m).all fun bs => !(monoB (Ln n) (ofBits (Ln n) bs)) ||
  endB ((progM (ofBits (Ln n) bs) (Ln n)).map dCells) ((leastM ((cellsM n).filter (ofBits (Ln n) bs))).map dCells)
theorem sameD1 : sameD 1 2 = true := by decide +kernel
theorem sameD2 : sameD 2 4 = true := by decide +kernel
theorem sameD3 : sameD 3 8 = true := by decide +kernel
structure EndOk (xs ys : List D) (zs : List D) : Prop where
  a : sortK xs = some zs
  b : sortK ys = some zs
  sh : shw (.tup zs) = true
  pl : plain 60 (.tup zs) = true
  fz : fzNs 10 zs = true
theorem end_of {xs ys : List D} (e : endB xs ys = true) : ∃ zs, EndOk xs ys zs := by
  unfold endB at e
  split at e
  · rename_i a b h1 h2
    simp only [Bool.and_eq_true] at e
    obtain ⟨⟨⟨e1, e2⟩, e3⟩, e4⟩ := e
    exact ⟨a, h1, by rw [h2, sames_eq _ _ e1], e2, e3, e4⟩
  · cases e
theorem sameD_all {n m : Nat} (sb : sameD n m = true) (hl : (Ln n).length = m) (sub : ∀ c ∈ cellsM n, c ∈ Ln n) (g : List Nat → Bool) (mono : ∀ a ∈ Ln n, ∀ b ∈ Ln n, subB a b = true → g a = true → g b = true) :
    ∃ zs, EndOk ((progM g (Ln n)).map dCells) ((leastM ((cellsM n).filter g)).map dCells) zs := by
  unfold sameD at sb
  rw [List.all_eq_true] at sb
  have mb : (Ln n).map g ∈ allBits m := by
    have := mem_bits ((Ln n).map g)
    rw [List.length_map, hl] at this; exact this
  have h := sb _ mb
  have eq := ofBits_eq g (Ln n)
  rw [Bool.or_eq_true] at h
  have hm : monoB (Ln n) (ofBits (Ln n) ((Ln n).map g)) = true := by
    unfold monoB
    rw [List.all_eq_true]
    intro a ma
    rw [List.all_eq_true]
    intro b mb
    rw [eq a ma, eq b mb]
    cases s : subB a b with
    | false => rfl
    | true =>
      cases ga : g a with
      | false => rfl
      | true => rw [mono a ma b mb s ga]; rfl
  rw [hm] at h
  rcases h with h | h
  · cases h
  · have e1 : progM (ofBits (Ln n) ((Ln n).map g)) (Ln n) = progM g (Ln n) := progM_eq (Ln n) [] fun c mc => eq c mc
    have e2 : (cellsM n).filter (ofBits (Ln n) ((Ln n).map g)) = (cellsM n).filter g := List.filter_congr fun c mc => eq c (sub c mc)
    rw [e1, e2] at h
    exact end_of h
/-! ### what is asked of cells -/
theorem in_nats (i : Nat) (c : List Nat) : cmpD h .in_ (nat i) (dCells c) = some (decide (i ∈ c)) := by
  show (if plain 60 (view h (nat i)) && (c.map nat).all (plain 60) then some ((c.map nat).any fun x => eqv x (view h (nat i))) else none) = _
  have a : (c.map nat).all (plain 60) = true := by rw [List.all_map, List.all_eq_true]; intro x _; rfl
  have v : view h (nat i) = nat i := rfl
  rw [v, a, if_pos (show (plain 60 (nat i) && true) = true from rfl)]
  congr 1
  clear a v
  induction c with
  | nil => rfl
  | cons x c ih =>
    rw [List.map_cons, List.any_cons, ih]
    · have e : eqv (nat x) (nat i) = decide (i = x) := by
        show PyData.eqv (.int (x : Int)) (.int (i : Int)) = _
        by_cases z : i = x
        · subst z; simp [PyData.eqv]
        · rw [decide_eq_false z]
          have : ¬ (x : Int) = (i : Int) := fun q => z (by omega)
          simp [PyData.eqv, this]
      rw [e]
      by_cases z : i = x
      · simp [z]
      · simp [z]
theorem allB_map {α : Type} (f : α → Bool) : ∀ l : List α, allB (l.map fun x => D.bl (f x)) = some (l.map f)
  | [] => rfl
  | x :: l => by
    show (allB (l.map fun x => D.bl (f x))).map (f x :: ·) = _
    rw [allB_map f l]; rfl
theorem all_bl {α : Type} (f : α → Bool) (l : List α) : b1D h .all (.lst (l.map fun x => D.bl (f x))) = .ok (.bl (l.all f)) h := by
  show R.of ((allB (l.map fun x => D.bl (f x))).map fun bs => D.bl (bs.all id)) h = _
  rw [allB_map]
  show R.ok (D.bl ((l.map f).all id)) h = _
  rw [List.all_map]; rfl
theorem any_bl {α : Type} (f : α → Bool) (l : List α) : b1D h .any (.lst (l.map fun x => D.bl (f x))) = .ok (.bl (l.any f)) h := by
  show R.of ((allB (l.map fun x => D.bl (f x))).map fun bs => D.bl (bs.any id)) h = _
  rw [allB_map]
  show R.ok (D.bl ((l.map f).any id)) h = _
  rw [List.any_map]; rfl
/-- a comprehension over a source that stays -/
theorem lcL_mapS {α : Type} {s : Src} {asg : D → Hq → R Ev} {cond : Ev → Hq → R Bool} {x : Ev → Hq → R D} (f : α → D) (g : α → D) (h : Hq) (u : unch s h = true) : ∀ (xs : List α),
    (∀ a ∈ xs, ∃ ρ, asg (f a) h = .ok ρ h ∧ cond ρ h = .ok true h ∧ x ρ h = .ok (g a) h) → lcL s asg cond x (xs.map f) h = .ok (xs.map g) h
  | [], _ => by rw [List.map_nil, lcL, if_pos u]; rfl
  | a :: xs, st => by
    obtain ⟨ρ, e1, e2, e3⟩ := st a (List.mem_cons_self ..)
    have ih := lcL_mapS f g h u xs fun y m => st y (List.mem_cons_of_mem _ m)
    rw [List.map_cons, lcL, if_pos u, e1, R.bind_ok, e2, R.bind_ok, if_pos rfl, e3, R.bind_ok, ih]; rfl
/-! ### all_cells, enough_sets -/
def allCellsP : Ss :=
  .cons (.asg (.nm 1) (.lstF (.cons (.tup .nil) .nil))) <|
  .cons (.for_ (.rng (.cons (.b1 .len (.ix (.var 0) (.c (.int 0)))) .nil)) (.nm 2) (.cons (.asg (.nm 1) (.bin .add (.var 1) (.lc (.sq (.var 1)) (.nm 3) (.c (.bl true)) (.bin .add (.var 3) (.tup (.cons (.var 2) .nil)))))) .nil)) <|
  .cons (.ret (.b1 .slen (.var 1))) .nil
def AllCS (cl : Cl) : Prop := ∀ {h : Hq} {H : Hs}, HsOk H → callPu cl "all_cells" [dHs H] h = .ok (.lst ((Ln H.sz.length).map dCells)) h
theorem n_cases {H : Hs} (ok : HsOk H) : H.sz.length = 1 ∨ H.sz.length = 2 ∨ H.sz.length = 3 := by have := ok.sz0; have := ok.sz1; omega
theorem allCS (tb : look T "all_cells" = some ⟨"all_cells", 1, 4, allCellsP⟩) : AllCS (callN T w (k + 1)) := by
  intro h H ok
  refine pu_run (f := ⟨"all_cells", 1, 4, allCellsP⟩) tb rfl ?_ (fun d m => by rw [List.mem_singleton.mp m]; exact fz_dHs ok)
  show outFrz (evSs (callN T w k) w allCellsP [some (dHs H), none, none, none] []) = _
  obtain ⟨x2, s1⟩ : ∃ x2, evSs (callN T w k) w allCellsP [some (dHs H), none, none, none] [] = evSs (callN T w k) w (.cons (.ret (.b1 .slen (.var 1))) .nil) [some (dHs H), some (.lst ((cellsM H.sz.length).map dCells)), x2, none] [] := by
    have key := sz_cases ok
    obtain ⟨sz, nd, dd⟩ := H
    clear ok
    dsimp only at key ⊢
    refine ⟨some (nat (sz.length - 1)), ?_⟩
    have s0 : evS (callN T w k) w (.asg (.nm 1) (.lstF (.cons (.tup .nil) .nil))) [some (dHs ⟨sz, nd, dd⟩), none, none, none] [] = .nx [some (dHs ⟨sz, nd, dd⟩), some (.lst [.tup []]), none, none] [] := rfl
    rw [allCellsP, seq_nx s0]
    refine seq_nx ?_
    rcases key with rfl | rfl | rfl | rfl | rfl | rfl | rfl | rfl | rfl <;> kernel_rfl
  rw [s1]
  have sl : b1D [] .slen (.lst ((cellsM H.sz.length).map dCells)) = .ok (.lst ((Ln H.sz.length).map dCells)) [] := by
    show (if slOk ((cellsM H.sz.length).map dCells) then R.ok (D.lst (slsort ((cellsM H.sz.length).map dCells))) [] else R.er) = _
    obtain ⟨a, b, c⟩ := cells_sl
    rcases n_cases ok with e | e | e <;> rw [e]
    · rw [a, if_pos (by decide +kernel)]
    · rw [b, if_pos (by decide +kernel)]
    · rw [c, if_pos (by decide +kernel)]
  rw [seq_rt1 (ev_ret (ev_b1 (o := .slen) rfl sl))]
  have f : fzNs 59 ((Ln H.sz.length).map dCells) = true := fzNs_map fun c _ => by
    show fzN 59 (.tup _) = true
    rw [fzN]; exact fzNs_map fun c _ => rfl
  exact frz_id _ _ _ (by rw [fzN]; exact f)

def moreE : E := .b1 .any (.lc (.sq (.var 2)) (.nm 5) (.c (.bl true)) (.b1 .all (.lc (.sq (.var 5)) (.nm 6) (.c (.bl true)) (.cmp .in_ (.var 6) (.var 3)))))
def esL : Ss := .cons (.asg (.nm 4) moreE) (.cons (.ite (.and_ (.not (.var 4)) (.call .pu "is_enough" (.cons (.var 0) (.cons (.var 1) (.cons (.var 3) .nil))))) (.cons (.ex (.bm .append (.var 2) (.cons (.var 3) .nil))) .nil) .nil) .nil)
def enoughSB : Ss :=
  .cons (.asg (.nm 2) (.lstM .nil)) <|
  .cons (.for_ (.sq (.call .pu "all_cells" (.cons (.var 0) .nil))) (.nm 3) esL) <|
  .cons (.ret (.b1 .tuple (.b1 .sorted (.var 2)))) .nil
abbrev esE (H : Hs) (cs : List (List Int)) (x3 x4 x5 x6 : Option D) : Ev := [some (dHs H), some (.tup (cs.map tD)), some (.ref 0), x3, x4, x5, x6]
theorem more_ev {H : Hs} {cs : List (List Int)} (acc : List (List Nat)) (c : List Nat) (x4 : Option D) (la : acc.length ≤ 1000) (ll : ∀ l ∈ acc, l.length ≤ 1000) :
    evE cl moreE (esE H cs (some (dCells c)) x4 none none) [.lst (acc.map dCells)] = .ok (.bl (acc.any fun l => subB l c)) [.lst (acc.map dCells)] := by
  refine ev_b1 (o := .any) (h1 := [.lst (acc.map dCells)]) (d := .lst (acc.map fun l => .bl (subB l c))) ?_ (any_bl _ _)
  refine ev_lc (s := some (0, .lst (acc.map dCells))) (xs := acc.map dCells) (h1 := [.lst (acc.map dCells)]) ?_ (fits_small (by rw [List.length_map]; omega)) ?_
  · rw [evIt]; rfl
  · refine lcL_mapS dCells _ _ (by have := D.same_self (.lst (acc.map dCells)); exact this) acc fun l ml => ?_
    refine ⟨esE H cs (some (dCells c)) x4 (some (dCells l)) none, rfl, rfl, ?_⟩
    refine ev_b1 (o := .all) (h1 := [.lst (acc.map dCells)]) (d := .lst (l.map fun i => .bl (decide (i ∈ c)))) ?_ (all_bl _ _)
    refine ev_lc (s := none) (xs := l.map nat) (h1 := [.lst (acc.map dCells)]) ?_ (fits_small (by rw [List.length_map]; have := ll l ml; omega)) ?_
    · rw [evIt]; rfl
    · refine lcL_mapS nat _ _ rfl l fun i _ => ?_
      refine ⟨esE H cs (some (dCells c)) x4 (some (dCells l)) (some (nat i)), rfl, rfl, ?_⟩
      have := in_nats (h := [.lst (acc.map dCells)]) i c
      show R.of ((cmpD [.lst (acc.map dCells)] .in_ (nat i) (dCells c)).map D.bl) [.lst (acc.map dCells)] = _
      rw [this]; rfl
theorem es_loop (En : EnoughS cl) {H : Hs} (ok : HsOk H) {cs : List (List Int)} (co : ∀ c ∈ cs, Cok H.sz c) (hl : cs.length ≤ 1000) : ∀ (L acc : List (List Nat)) (x3 x4 : Option D), (∀ c ∈ L, CellsOk H c) → (∀ c ∈ acc, c.length ≤ 1000) → acc.length + L.length ≤ 1000 →
    ∃ x3' x4', forL none (fun d ρ h => evT cl (.nm 3) d ρ h) (fun ρ h => evSs cl w esL ρ h) (L.map dCells) (esE H cs x3 x4 none none) [.lst (acc.map dCells)] =
      .nx (esE H cs x3' x4' none none) [.lst ((L.foldl (fun found c => if !(found.any fun l => subB l c) && (twinsM H c cs).isNone then found ++ [c] else found) acc).map dCells)]
  | [], acc, x3, x4, _, _, _ => ⟨x3, x4, rfl⟩
  | c :: L, acc, x3, x4, cl_, ca, l => by
    have oc := cl_ c (List.mem_cons_self ..)
    rw [List.length_cons] at l
    have oL : ∀ d ∈ L, CellsOk H d := fun d m => cl_ d (List.mem_cons_of_mem _ m)
    have s0 : evS cl w (.asg (.nm 4) moreE) (esE H cs (some (dCells c)) x4 none none) [.lst (acc.map dCells)] = .nx (esE H cs (some (dCells c)) (some (.bl (acc.any fun l => subB l c))) none none) [.lst (acc.map dCells)] :=
      ev_asg (more_ev acc c x4 (by omega) ca)
    have en := En (h := [.lst (acc.map dCells)]) ok co hl oc
    have cond : evE cl (.and_ (.not (.var 4)) (.call .pu "is_enough" (.cons (.var 0) (.cons (.var 1) (.cons (.var 3) .nil))))) (esE H cs (some (dCells c)) (some (.bl (acc.any fun l => subB l c))) none none) [.lst (acc.map dCells)] = .ok (.bl (!(acc.any fun l => subB l c) && (twinsM H c cs).isNone)) [.lst (acc.map dCells)] := by
      rw [ev_and (x := !(acc.any fun l => subB l c)) (h1 := [.lst (acc.map dCells)]) (r := .ok (.bl (twinsM H c cs).isNone) [.lst (acc.map dCells)]) rfl (fun _ => by simp only [evSs, evS, evE, evEs, evT, evTs, evIt, R.bind_ok, R.of_some, Out.of_ok, R.nox, tst, Option.map_some, Option.map, List.getElem?_cons_zero, List.getElem?_cons_succ, List.set_cons_zero, List.set_cons_succ, tru_bl, add_ii, sub_ii, lt_ii, ge_ii, int_i, if_true, if_false, Bool.false_eq_true, Bool.not_true, Bool.not_false, callD]; exact en)]
      cases (acc.any fun l => subB l c) <;> rfl
    rw [List.foldl_cons]
    by_cases b : (!(acc.any fun l => subB l c) && (twinsM H c cs).isNone) = true
    · rw [if_pos b]
      have s1 : evS cl w (.ite (.and_ (.not (.var 4)) (.call .pu "is_enough" (.cons (.var 0) (.cons (.var 1) (.cons (.var 3) .nil))))) (.cons (.ex (.bm .append (.var 2) (.cons (.var 3) .nil))) .nil) .nil) (esE H cs (some (dCells c)) (some (.bl (acc.any fun l => subB l c))) none none) [.lst (acc.map dCells)] = .nx (esE H cs (some (dCells c)) (some (.bl (acc.any fun l => subB l c))) none none) [.lst ((acc ++ [c]).map dCells)] := by
        refine (ev_if (t := true) (h1 := [.lst (acc.map dCells)]) (by rw [tst, cond, b]; rfl)).trans ?_
        rw [if_pos rfl]
        refine seq_one ?_
        rw [ev_append (q := 0) (h2 := [.lst (acc.map dCells)]) (d := dCells c) (xs := acc.map dCells) (ys := acc.map dCells) rfl rfl rfl rfl (small_size (by rw [List.length_map]; omega)), List.map_append]; rfl
      obtain ⟨y3, y4, ih⟩ := es_loop En ok co hl L (acc ++ [c]) (some (dCells c)) (some (.bl (acc.any fun l => subB l c))) oL (fun d m => by
        rcases List.mem_append.mp m with m | m
        · exact ca d m
        · rw [List.mem_singleton] at m; subst m; have := oc.1; omega) (by rw [List.length_append]; show acc.length + 1 + _ ≤ _; omega)
      refine ⟨y3, y4, ?_⟩
      rw [List.map_cons, forL, if_pos (show unch none _ = true from rfl)]
      show Out.of (R.ok (esE H cs (some (dCells c)) x4 none none) _) _ _ = _
      rw [Out.of_ok, show evSs cl w esL (esE H cs (some (dCells c)) x4 none none) [.lst (acc.map dCells)] = _ from (seq_nx s0).trans (seq_one s1)]
      exact ih
    · rw [if_neg b]
      have bf : (!(acc.any fun l => subB l c) && (twinsM H c cs).isNone) = false := (Bool.not_eq_true _).mp b
      have s1 : evS cl w (.ite (.and_ (.not (.var 4)) (.call .pu "is_enough" (.cons (.var 0) (.cons (.var 1) (.cons (.var 3) .nil))))) (.cons (.ex (.bm .append (.var 2) (.cons (.var 3) .nil))) .nil) .nil) (esE H cs (some (dCells c)) (some (.bl (acc.any fun l => subB l c))) none none) [.lst (acc.map dCells)] = .nx (esE H cs (some (dCells c)) (some (.bl (acc.any fun l => subB l c))) none none) [.lst (acc.map dCells)] :=
        skip_ (by rw [cond, bf])
      obtain ⟨y3, y4, ih⟩ := es_loop En ok co hl L acc (some (dCells c)) (some (.bl (acc.any fun l => subB l c))) oL ca (by omega)
      refine ⟨y3, y4, ?_⟩
      rw [List.map_cons, forL, if_pos (show unch none _ = true from rfl)]
      show Out.of (R.ok (esE H cs (some (dCells c)) x4 none none) _) _ _ = _
      rw [Out.of_ok, show evSs cl w esL (esE H cs (some (dCells c)) x4 none none) [.lst (acc.map dCells)] = _ from (seq_nx s0).trans (seq_one s1)]
      exact ih
theorem Ln_ok {H : Hs} (ok : HsOk H) : ∀ c ∈ Ln H.sz.length, CellsOk H c := by
  have key : ∀ n, n = 1 ∨ n = 2 ∨ n = 3 → ∀ c ∈ Ln n, c.length ≤ 3 ∧ ∀ i ∈ c, i < n := by
    intro n hn
    rcases hn with rfl | rfl | rfl <;> decide +kernel
  exact key _ (n_cases ok)
/-- the answer of enough_sets, from a sorted list -/
def EsS (cl : Cl) : Prop := ∀ {h : Hq} {H : Hs} {cs : List (List Int)} {zs : List D}, HsOk H → (∀ c ∈ cs, Cok H.sz c) → cs.length ≤ 1000 → sortK ((progM (fun c => (twinsM H c cs).isNone) (Ln H.sz.length)).map dCells) = some zs → fzNs 10 zs = true → callPu cl "enough_sets" [dHs H, .tup (cs.map tD)] h = .ok (.tup zs) h
theorem esS (tb : look T "enough_sets" = some ⟨"enough_sets", 2, 7, enoughSB⟩) (Ac : AllCS (callN T w k)) (En : EnoughS (callN T w k)) : EsS (callN T w (k + 1)) := by
  intro h H cs zs ok co hl sk fz
  refine pu_run (f := ⟨"enough_sets", 2, 7, enoughSB⟩) tb rfl ?_ (fun d m => ?_)
  · show outFrz (evSs (callN T w k) w enoughSB [some (dHs H), some (.tup (cs.map tD)), none, none, none, none, none] []) = _
    have ac := Ac (h := [.lst []]) ok
    have s0 : evS (callN T w k) w (.asg (.nm 2) (.lstM .nil)) [some (dHs H), some (.tup (cs.map tD)), none, none, none, none, none] [] = .nx (esE H cs none none none none) [.lst []] := rfl
    obtain ⟨x3, x4, lp⟩ := es_loop (w := w) En ok co hl (Ln H.sz.length) [] none none (Ln_ok ok) (fun _ m => nomatch m) (by
      have : ∀ n, (Ln n).length ≤ 8 := fun n => by unfold Ln; split <;> decide
      have := this H.sz.length
      show 0 + _ ≤ 1000
      omega)
    have s1 : evS (callN T w k) w (.for_ (.sq (.call .pu "all_cells" (.cons (.var 0) .nil))) (.nm 3) esL) (esE H cs none none none none) [.lst []] = _ := ev_for (ev_sq (b := false) (xs := (Ln H.sz.length).map dCells) (h1 := [.lst []]) (by simp only [evSs, evS, evE, evEs, evT, evTs, evIt, R.bind_ok, R.of_some, Out.of_ok, R.nox, tst, Option.map_some, Option.map, List.getElem?_cons_zero, List.getElem?_cons_succ, List.set_cons_zero, List.set_cons_succ, tru_bl, add_ii, sub_ii, lt_ii, ge_ii, int_i, if_true, if_false, Bool.false_eq_true, Bool.not_true, Bool.not_false, callD]; exact ac)) lp
    have s2 : evE (callN T w k) (.b1 .tuple (.b1 .sorted (.var 2))) (esE H cs x3 x4 none none) [.lst ((progM (fun c => (twinsM H c cs).isNone) (Ln H.sz.length)).map dCells)] = .ok (.tup zs) [.lst ((progM (fun c => (twinsM H c cs).isNone) (Ln H.sz.length)).map dCells)] := by
      refine ev_b1 (o := .tuple) (d := .lst zs) (h1 := [.lst ((progM (fun c => (twinsM H c cs).isNone) (Ln H.sz.length)).map dCells)]) ?_ (tuple_l _)
      have := sorted_K (h := [.lst ((progM (fun c => (twinsM H c cs).isNone) (Ln H.sz.length)).map dCells)]) (o := .ref 0) (xs := (progM (fun c => (twinsM H c cs).isNone) (Ln H.sz.length)).map dCells) rfl
      rw [sk] at this
      exact ev_b1 (o := .sorted) rfl this
    rw [enoughSB, seq_nx s0, seq_nx s1]
    exact (congrArg outFrz (seq_rt1 (ev_ret s2))).trans (frz_id _ _ _ (by rw [fzN]; exact fzNs_mono fz (by decide)))
  · simp only [List.mem_cons, List.mem_nil_iff, or_false] at m
    rcases m with rfl | rfl
    · exact fz_dHs ok
    · exact fz_tDs cs

/-! ### the law's side -/
theorem eqv_cells : ∀ a b : List Nat, PyData.eqv (.tuple (toPs (a.map nat))) (.tuple (toPs (b.map nat))) = decide (a = b)
  | [], [] => by simp [toPs, PyData.eqv, PyData.eqvAll]
  | [], _ :: _ => by simp [toPs, PyData.eqv, PyData.eqvAll]
  | _ :: _, [] => by simp [toPs, PyData.eqv, PyData.eqvAll]
  | x :: a, y :: b => by
    have ih := eqv_cells a b
    have e : PyData.eqv (.tuple (toPs ((x :: a).map nat))) (.tuple (toPs ((y :: b).map nat))) = (PyData.eqv (.int (x : Int)) (.int (y : Int)) && PyData.eqv (.tuple (toPs (a.map nat))) (.tuple (toPs (b.map nat)))) := by
      simp [toPs, toP, nat, PyData.eqv, PyData.eqvAll]
    rw [e, ih]
    have e2 : PyData.eqv (.int (x : Int)) (.int (y : Int)) = decide (x = y) := by
      have := eqv_ii (x : Int) (y : Int)
      unfold eqv at this
      rw [show toP (.int (x : Int)) = .int (x : Int) from by simp [toP], show toP (.int (y : Int)) = .int (y : Int) from by simp [toP]] at this
      rw [this]
      by_cases z : x = y
      · rw [decide_eq_true z, decide_eq_true (by omega)]
      · rw [decide_eq_false z, decide_eq_false (by omega)]
    rw [e2]
    by_cases z : x = y <;> by_cases q : a = b <;> simp [z, q]
theorem plain_cells (a : List Nat) (n : Nat) : plain (n + 1) (dCells a) = true := by
  show (a.map nat).all (plain n) = true
  rw [List.all_map, List.all_eq_true]; intro x _; cases n <;> rfl
theorem in_cells (l : List Nat) (good : List (List Nat)) : cmpD h .in_ (dCells l) (.lst (good.map dCells)) = some (decide (l ∈ good)) := by
  have a : (good.map dCells).all (plain 60) = true := by rw [List.all_map, List.all_eq_true]; exact fun c _ => plain_cells c 59
  have e : cmpD h .in_ (dCells l) (.lst (good.map dCells)) = inD h (dCells l) (.lst (good.map dCells)) := rfl
  rw [e]
  show (if plain 60 (dCells l) && (good.map dCells).all (plain 60) then some ((good.map dCells).any fun x => eqv x (dCells l)) else none) = _
  rw [a, plain_cells l 59]
  show some ((good.map dCells).any fun x => eqv x (dCells l)) = _
  congr 1
  clear a e
  induction good with
  | nil => rfl
  | cons x good ih =>
    rw [List.map_cons, List.any_cons, ih]
    have e : eqv (dCells x) (dCells l) = decide (x = l) := by
      have := eqv_cells x l
      show PyData.eqv (toP (.tup (x.map nat))) (toP (.tup (l.map nat))) = _
      rw [toP, toP]; exact this
    rw [e]
    by_cases z : x = l
    · simp [z]
    · have : ¬ l = x := fun q => z q.symm
      simp [z, this]
theorem seen_sub {a b : List Nat} (s : subB a b = true) {x y : List Int} (e : seenM b x = seenM b y) : seenM a x = seenM a y := by
  unfold subB at s
  rw [List.all_eq_true] at s
  unfold seenM at e ⊢
  rw [List.map_inj_left] at e ⊢
  exact fun i m => e i (of_decide_eq_true (s i m))
theorem pairs_mono {H : Hs} {cs : List (List Int)} {a b : List Nat} (s : subB a b = true) (e : pairsM H a cs = []) : pairsM H b cs = [] := by
  cases z : pairsM H b cs with
  | nil => rfl
  | cons q r =>
    obtain ⟨x, y⟩ := q
    have m : (x, y) ∈ pairsM H b cs := by rw [z]; exact List.mem_cons_self ..
    obtain ⟨l1, l2, l3, e1, d⟩ := of_pairs m
    have d2 : differ H a x y = true := by
      unfold differ at d ⊢
      rw [Bool.and_eq_true] at d ⊢
      exact ⟨decide_eq_true (seen_sub s (of_decide_eq_true d.1)), d.2⟩
    have := mem_pairs (l1 := l1) (l2 := l2) (l3 := l3) d2
    rw [← e1, e] at this; cases this
theorem tw_isNone (H : Hs) (c : List Nat) (cs : List (List Int)) : (twinsM H c cs).isNone = (pairsM H c cs).isEmpty := by
  cases e : pairsM H c cs with
  | nil => rw [twins_none.mpr e]; rfl
  | cons q l =>
    cases e2 : twinsM H c cs with
    | none => rw [twins_none.mp e2] at e; cases e
    | some z => rfl
/-- the two sides' lists sort to one -/
theorem sides {H : Hs} (ok : HsOk H) (cs : List (List Int)) : ∃ zs, EndOk ((progM (fun c => (twinsM H c cs).isNone) (Ln H.sz.length)).map dCells) ((leastM ((cellsM H.sz.length).filter fun c => (pairsM H c cs).isEmpty)).map dCells) zs := by
  have fe : (fun c => (twinsM H c cs).isNone) = fun c => (pairsM H c cs).isEmpty := funext fun c => tw_isNone H c cs
  rw [fe]
  have mono : ∀ n, ∀ a ∈ Ln n, ∀ b ∈ Ln n, subB a b = true → (pairsM H a cs).isEmpty = true → (pairsM H b cs).isEmpty = true := fun n a _ b _ s e => by
    rw [List.isEmpty_iff] at e ⊢
    exact pairs_mono s e
  rcases n_cases ok with e | e | e <;> rw [e]
  · exact sameD_all (m := 2) sameD1 rfl (by decide +kernel) _ (mono 1)
  · exact sameD_all (m := 4) sameD2 rfl (by decide +kernel) _ (mono 2)
  · exact sameD_all (m := 8) sameD3 rfl (by decide +kernel) _ (mono 3)
theorem slc_toN (h : Hq) {xs : List D} {i : Nat} (l : i ≤ xs.length) : slcD h (.tup xs) .hole (nat i) = some (.tup (xs.take i)) := by
  show ((clip xs.length 0 .hole).bind fun a => (clip xs.length xs.length (nat i)).map fun u => D.tup ((xs.take u).drop a)) = _
  have e : clip xs.length xs.length (nat i) = some i := by
    unfold clip
    show (if (0 : Int) ≤ (i : Int) then some (min (i : Int).toNat xs.length) else _) = _
    rw [if_pos (by omega), Int.toNat_natCast, Nat.min_eq_left l]
  rw [e]; rfl
theorem add_cells (h : Hq) (a b : List Nat) (l : a.length + b.length ≤ 1000) : binD h .add (dCells a) (dCells b) = some (dCells (a ++ b)) := by
  have e : dCells (a ++ b) = .tup (a.map nat ++ b.map nat) := by show D.tup _ = _; rw [List.map_append]
  rw [e]
  show (if fits ((a.map nat).length + (b.map nat).length) then some (D.tup (a.map nat ++ b.map nat)) else none) = _
  rw [if_pos (fits_small (by rw [List.length_map, List.length_map]; omega))]
end Rx

/-! ### the law's text as terms (printed by irp.py) -/
namespace Lw
open PySem L2 Rx
open PySem.Spec
open PyProof.Rows
def tp (i : Nat) : Stmt := PySem.Challenge.pw_askanew_k52_least_enough_cells.main.body.getD i (.Pass ⟨0, 0, 0, 0⟩)
def f_asked_b_0 : Rx.S := (.par [2, 3] (.cons (.lstM .nil) (.cons (.ix (.ix (.var 0) (.c (.int 1))) (.c (.int 0))) .nil)))
def f_asked_b_1_b_0 : Rx.S := (.ex (.bm .append (.var 2) (.cons (.ix (.var 3) (.c (.int 1))) .nil)))
def f_asked_b_1_b_1 : Rx.S := (.asg (.nm 3) (.ix (.ix (.var 0) (.c (.int 1))) (.ix (.ix (.var 3) (.c (.int 2))) (.ix (.var 1) (.ix (.var 3) (.c (.int 1)))))))
def f_asked_b_1_b : Rx.Ss := (.cons f_asked_b_1_b_0 (.cons f_asked_b_1_b_1 .nil))
def f_asked_b_1 : Rx.S := (.whl (.cmp .eq (.ix (.var 3) (.c (.int 0))) (.c (.str "look"))) f_asked_b_1_b)
def f_asked_b_2 : Rx.S := (.ret (.tup (.cons (.b1 .tuple (.var 2)) (.cons (.ix (.var 3) (.c (.int 1))) .nil))))
def f_asked_b : Rx.Ss := (.cons f_asked_b_0 (.cons f_asked_b_1 (.cons f_asked_b_2 .nil)))
def f_asked : Rx.Row := ⟨⟨"asked", 2, 4, f_asked_b⟩, ["house", "content", "looks", "node"], ["house", "content"], "asked", defArgs (tp 1), defBody (tp 1), defScope (tp 1)⟩
def f_twins_b_0 : Rx.S := (.asg (.nm 3) .dctM)
def f_twins_b_1_b_0 : Rx.S := (.par [5, 6] (.cons (.b1 .tuple (.lc (.sq (.var 2)) (.nm 7) (.c (.bl true)) (.ix (.var 4) (.var 7)))) (.cons (.ix (.call .pu "asked" (.cons (.var 0) (.cons (.var 4) .nil))) (.c (.int 1))) .nil)))
def f_twins_b_1_b_1_b_0 : Rx.S := (.ret (.tup (.cons (.ix (.ix (.var 3) (.var 5)) (.c (.int 0))) (.cons (.var 4) .nil))))
def f_twins_b_1_b_1_b : Rx.Ss := (.cons f_twins_b_1_b_1_b_0 .nil)
def f_twins_b_1_b_1 : Rx.S := (.ite (.and_ (.cmp .in_ (.var 5) (.var 3)) (.cmp .ne (.ix (.ix (.var 3) (.var 5)) (.c (.int 1))) (.var 6))) f_twins_b_1_b_1_b .nil)
def f_twins_b_1_b_2 : Rx.S := (.ex (.bm .setdefault (.var 3) (.cons (.var 5) (.cons (.tup (.cons (.var 4) (.cons (.var 6) .nil))) .nil))))
def f_twins_b_1_b : Rx.Ss := (.cons f_twins_b_1_b_0 (.cons f_twins_b_1_b_1 (.cons f_twins_b_1_b_2 .nil)))
def f_twins_b_1 : Rx.S := (.for_ (.sq (.var 1)) (.nm 4) f_twins_b_1_b)
def f_twins_b_2 : Rx.S := (.ret (.c .non))
def f_twins_b : Rx.Ss := (.cons f_twins_b_0 (.cons f_twins_b_1 (.cons f_twins_b_2 .nil)))
def f_twins : Rx.Row := ⟨⟨"twins", 3, 8, f_twins_b⟩, ["house", "some", "cells", "first", "content", "seen", "answer", "cell"], ["house", "some", "cells"], "twins", defArgs (tp 3), defBody (tp 3), defScope (tp 3)⟩
def f_is_enough_b_0 : Rx.S := (.ret (.cmp .is_ (.call .pu "twins" (.cons (.var 0) (.cons (.var 1) (.cons (.var 2) .nil)))) (.c .non)))
def f_is_enough_b : Rx.Ss := (.cons f_is_enough_b_0 .nil)
def f_is_enough : Rx.Row := ⟨⟨"is_enough", 3, 3, f_is_enough_b⟩, ["house", "some", "cells"], ["house", "some", "cells"], "is_enough", defArgs (tp 4), defBody (tp 4), defScope (tp 4)⟩
def f_all_cells_b_0 : Rx.S := (.asg (.nm 1) (.lstF (.cons (.tup .nil) .nil)))
def f_all_cells_b_1_b_0 : Rx.S := (.asg (.nm 1) (.bin .add (.var 1) (.lc (.sq (.var 1)) (.nm 3) (.c (.bl true)) (.bin .add (.var 3) (.tup (.cons (.var 2) .nil))))))
def f_all_cells_b_1_b : Rx.Ss := (.cons f_all_cells_b_1_b_0 .nil)
def f_all_cells_b_1 : Rx.S := (.for_ (.rng (.cons (.b1 .len (.ix (.var 0) (.c (.int 0)))) .nil)) (.nm 2) f_all_cells_b_1_b)
def f_all_cells_b_2 : Rx.S := (.ret (.b1 .slen (.var 1)))
def f_all_cells_b : Rx.Ss := (.cons f_all_cells_b_0 (.cons f_all_cells_b_1 (.cons f_all_cells_b_2 .nil)))
def f_all_cells : Rx.Row := ⟨⟨"all_cells", 1, 4, f_all_cells_b⟩, ["house", "found", "cell", "cells"], ["house"], "all_cells", defArgs (tp 5), defBody (tp 5), defScope (tp 5)⟩
def f_enough_sets_b_0 : Rx.S := (.asg (.nm 2) (.lstM .nil))
def f_enough_sets_b_1_b_0 : Rx.S := (.asg (.nm 4) (.b1 .any (.lc (.sq (.var 2)) (.nm 5) (.c (.bl true)) (.b1 .all (.lc (.sq (.var 5)) (.nm 6) (.c (.bl true)) (.cmp .in_ (.var 6) (.var 3)))))))
def f_enough_sets_b_1_b_1_b_0 : Rx.S := (.ex (.bm .append (.var 2) (.cons (.var 3) .nil)))
def f_enough_sets_b_1_b_1_b : Rx.Ss := (.cons f_enough_sets_b_1_b_1_b_0 .nil)
def f_enough_sets_b_1_b_1 : Rx.S := (.ite (.and_ (.not (.var 4)) (.call .pu "is_enough" (.cons (.var 0) (.cons (.var 1) (.cons (.var 3) .nil))))) f_enough_sets_b_1_b_1_b .nil)
def f_enough_sets_b_1_b : Rx.Ss := (.cons f_enough_sets_b_1_b_0 (.cons f_enough_sets_b_1_b_1 .nil))
def f_enough_sets_b_1 : Rx.S := (.for_ (.sq (.call .pu "all_cells" (.cons (.var 0) .nil))) (.nm 3) f_enough_sets_b_1_b)
def f_enough_sets_b_2 : Rx.S := (.ret (.b1 .tuple (.b1 .sorted (.var 2))))
def f_enough_sets_b : Rx.Ss := (.cons f_enough_sets_b_0 (.cons f_enough_sets_b_1 (.cons f_enough_sets_b_2 .nil)))
def f_enough_sets : Rx.Row := ⟨⟨"enough_sets", 2, 7, f_enough_sets_b⟩, ["house", "some", "found", "cells", "is_more", "less", "cell"], ["house", "some"], "enough_sets", defArgs (tp 6), defBody (tp 6), defScope (tp 6)⟩
def f_law_pen_b_0 : Rx.S := (.ret (.lstM (.cons (.b1 .list (.slc (.var 0) (.c .hole) (.c (.int 63)))) (.cons (.c (.int 0)) (.cons (.c (.int 0)) .nil)))))
def f_law_pen_b : Rx.Ss := (.cons f_law_pen_b_0 .nil)
def f_law_pen : Rx.Row := ⟨⟨"_law_pen", 1, 1, f_law_pen_b⟩, ["_law_script"], ["_law_script"], "_law_pen", defArgs (tp 8), defBody (tp 8), defScope (tp 8)⟩
def f_law_fresh_b_0 : Rx.S := (.asg (.nm 1) (.ix (.var 0) (.c (.int 1))))
def f_law_fresh_b_1 : Rx.S := (.asg (.sub (.var 0) (.c (.int 1))) (.bin .add (.var 1) (.c (.int 1))))
def f_law_fresh_b_2 : Rx.S := (.asg (.nm 2) (.c (.int 0)))
def f_law_fresh_b_3_b_0 : Rx.S := (.asg (.nm 2) (.ix (.ix (.var 0) (.c (.int 0))) (.bin .mod (.b1 .int (.var 1)) (.b1 .len (.ix (.var 0) (.c (.int 0)))))))
def f_law_fresh_b_3_b : Rx.Ss := (.cons f_law_fresh_b_3_b_0 .nil)
def f_law_fresh_b_3 : Rx.S := (.ite (.cmp .ne (.ix (.var 0) (.c (.int 0))) (.lstF .nil)) f_law_fresh_b_3_b .nil)
def f_law_fresh_b_4_b_0 : Rx.S := (.ret (.bin .sub (.var 2) (.bin .pow (.c (.int 10)) (.c (.int 18)))))
def f_law_fresh_b_4_b : Rx.Ss := (.cons f_law_fresh_b_4_b_0 .nil)
def f_law_fresh_b_4 : Rx.S := (.ite (.and_ (.cmp .lt (.var 1) (.b1 .len (.ix (.var 0) (.c (.int 0))))) (.cmp .ge (.var 2) (.bin .pow (.c (.int 10)) (.c (.int 18))))) f_law_fresh_b_4_b .nil)
def f_law_fresh_b_5 : Rx.S := (.asg (.nm 3) (.c (.int 2305843009213693951)))
def f_law_fresh_b_6 : Rx.S := (.asg (.nm 4) (.bin .mod (.b1 .int (.bin .add (.bin .add (.bin .mul (.var 2) (.c (.int 48271))) (.bin .mul (.c (.int 40692)) (.var 1))) (.c (.int 31)))) (.var 3)))
def f_law_fresh_b_7 : Rx.S := (.asg (.nm 5) (.var 4))
def f_law_fresh_b_8_b_0 : Rx.S := (.asg (.nm 4) (.bin .mod (.b1 .int (.bin .add (.bin .add (.bin .mul (.var 4) (.var 4)) (.bin .mul (.bin .mul (.c (.int 69621)) (.bin .add (.var 6) (.c (.int 1)))) (.bin .add (.var 1) (.c (.int 1))))) (.var 2))) (.var 3)))
def f_law_fresh_b_8_b_1 : Rx.S := (.asg (.nm 5) (.bin .add (.bin .mul (.var 5) (.var 3)) (.var 4)))
def f_law_fresh_b_8_b : Rx.Ss := (.cons f_law_fresh_b_8_b_0 (.cons f_law_fresh_b_8_b_1 .nil))
def f_law_fresh_b_8 : Rx.S := (.for_ (.rng (.cons (.c (.int 6)) .nil)) (.nm 6) f_law_fresh_b_8_b)
def f_law_fresh_b_9 : Rx.S := (.ret (.var 5))
def f_law_fresh_b : Rx.Ss := (.cons f_law_fresh_b_0 (.cons f_law_fresh_b_1 (.cons f_law_fresh_b_2 (.cons f_law_fresh_b_3 (.cons f_law_fresh_b_4 (.cons f_law_fresh_b_5 (.cons f_law_fresh_b_6 (.cons f_law_fresh_b_7 (.cons f_law_fresh_b_8 (.cons f_law_fresh_b_9 .nil))))))))))
def f_law_fresh : Rx.Row := ⟨⟨"_law_fresh", 1, 7, f_law_fresh_b⟩, ["_law_pen_here", "_law_at", "_law_cell", "_law_p", "_law_state", "_law_found", "_law_turn"], ["_law_pen_here"], "_law_fresh", defArgs (tp 9), defBody (tp 9), defScope (tp 9)⟩
def f_law_draw_b_0_b_0 : Rx.S := (.asg (.sub (.var 0) (.c (.int 2))) (.call .ef "_law_fresh" (.cons (.var 0) .nil)))
def f_law_draw_b_0_b : Rx.Ss := (.cons f_law_draw_b_0_b_0 .nil)
def f_law_draw_b_0 : Rx.S := (.ite (.cmp .lt (.ix (.var 0) (.c (.int 2))) (.var 1)) f_law_draw_b_0_b .nil)
def f_law_draw_b_1 : Rx.S := (.asg (.nm 2) (.bin .mod (.b1 .int (.ix (.var 0) (.c (.int 2)))) (.var 1)))
def f_law_draw_b_2 : Rx.S := (.asg (.sub (.var 0) (.c (.int 2))) (.bin .fdiv (.b1 .int (.ix (.var 0) (.c (.int 2)))) (.var 1)))
def f_law_draw_b_3 : Rx.S := (.ret (.var 2))
def f_law_draw_b : Rx.Ss := (.cons f_law_draw_b_0 (.cons f_law_draw_b_1 (.cons f_law_draw_b_2 (.cons f_law_draw_b_3 .nil))))
def f_law_draw : Rx.Row := ⟨⟨"_law_draw", 2, 3, f_law_draw_b⟩, ["_law_pen_here", "_law_many", "_law_digit"], ["_law_pen_here", "_law_many"], "_law_draw", defArgs (tp 10), defBody (tp 10), defScope (tp 10)⟩
def f_law_sizes_b_0 : Rx.S := (.asg (.nm 1) (.lstF (.cons (.tup (.cons (.c (.int 2)) .nil)) (.cons (.tup (.cons (.c (.int 3)) .nil)) (.cons (.tup (.cons (.c (.int 2)) (.cons (.c (.int 2)) .nil))) (.cons (.tup (.cons (.c (.int 2)) (.cons (.c (.int 2)) .nil))) (.cons (.tup (.cons (.c (.int 2)) (.cons (.c (.int 3)) .nil))) (.cons (.tup (.cons (.c (.int 3)) (.cons (.c (.int 2)) .nil))) (.cons (.tup (.cons (.c (.int 2)) (.cons (.c (.int 2)) (.cons (.c (.int 2)) .nil)))) (.cons (.tup (.cons (.c (.int 4)) .nil)) (.cons (.tup (.cons (.c (.int 2)) (.cons (.c (.int 4)) .nil))) (.cons (.tup (.cons (.c (.int 4)) (.cons (.c (.int 2)) .nil))) .nil))))))))))))
def f_law_sizes_b_1 : Rx.S := (.ret (.ix (.var 1) (.call .ef "_law_draw" (.cons (.var 0) (.cons (.c (.int 10)) .nil)))))
def f_law_sizes_b : Rx.Ss := (.cons f_law_sizes_b_0 (.cons f_law_sizes_b_1 .nil))
def f_law_sizes : Rx.Row := ⟨⟨"_law_sizes", 1, 2, f_law_sizes_b⟩, ["_law_pen_here", "_law_rows"], ["_law_pen_here"], "_law_sizes", defArgs (tp 11), defBody (tp 11), defScope (tp 11)⟩
def f_law_step_b_0 : Rx.S := (.asg (.tp (.cons (.nm 4) (.cons (.nm 5) .nil))) (.tup (.cons (.call .ef "_law_draw" (.cons (.var 0) (.cons (.b1 .len (.var 1)) .nil))) (.cons (.call .ef "_law_draw" (.cons (.var 0) (.cons (.c (.int 6)) .nil))) .nil))))
def f_law_step_b_1 : Rx.S := (.asg (.nm 3) (.lc (.rng (.cons (.b1 .len (.var 1)) .nil)) (.nm 6) (.and_ (.cmp .ne (.var 6) (.var 4)) (.cmp .eq (.ix (.var 1) (.var 6)) (.ix (.var 1) (.var 4)))) (.var 6)))
def f_law_step_b_2_b_0 : Rx.S := (.ret (.tup (.cons (.ix (.lstF (.cons (.c (.str "copy")) (.cons (.c (.str "swap")) .nil))) (.var 5)) (.cons (.var 4) (.cons (.ix (.var 3) (.call .ef "_law_draw" (.cons (.var 0) (.cons (.b1 .len (.var 3)) .nil)))) .nil)))))
def f_law_step_b_2_b : Rx.Ss := (.cons f_law_step_b_2_b_0 .nil)
def f_law_step_b_2 : Rx.S := (.ite (.and_ (.cmp .lt (.var 5) (.c (.int 2))) (.cmp .ne (.var 3) (.lstF .nil))) f_law_step_b_2_b .nil)
def f_law_step_b_3_b_0 : Rx.S := (.ret (.tup (.cons (.c (.str "add")) (.cons (.var 4) (.cons (.bin .add (.c (.int 1)) (.call .ef "_law_draw" (.cons (.var 0) (.cons (.bin .sub (.ix (.var 1) (.var 4)) (.c (.int 1))) .nil)))) .nil)))))
def f_law_step_b_3_b : Rx.Ss := (.cons f_law_step_b_3_b_0 .nil)
def f_law_step_b_3 : Rx.S := (.ite (.cmp .eq (.var 5) (.c (.int 2))) f_law_step_b_3_b .nil)
def f_law_step_b_4_b_0 : Rx.S := (.ret (.tup (.cons (.c (.str "when")) (.cons (.var 4) (.cons (.call .ef "_law_draw" (.cons (.var 0) (.cons (.ix (.var 1) (.var 4)) .nil))) (.cons (.call .ef "_law_step" (.cons (.var 0) (.cons (.var 1) (.cons (.bin .sub (.var 2) (.c (.int 1))) .nil)))) .nil))))))
def f_law_step_b_4_b : Rx.Ss := (.cons f_law_step_b_4_b_0 .nil)
def f_law_step_b_4 : Rx.S := (.ite (.and_ (.cmp .gt (.var 5) (.c (.int 3))) (.cmp .gt (.var 2) (.c (.int 0)))) f_law_step_b_4_b .nil)
def f_law_step_b_5 : Rx.S := (.ret (.tup (.cons (.c (.str "set")) (.cons (.var 4) (.cons (.call .ef "_law_draw" (.cons (.var 0) (.cons (.ix (.var 1) (.var 4)) .nil))) .nil)))))
def f_law_step_b : Rx.Ss := (.cons f_law_step_b_0 (.cons f_law_step_b_1 (.cons f_law_step_b_2 (.cons f_law_step_b_3 (.cons f_law_step_b_4 (.cons f_law_step_b_5 .nil))))))
def f_law_step : Rx.Row := ⟨⟨"_law_step", 3, 7, f_law_step_b⟩, ["_law_pen_here", "_law_sizes_here", "_law_whens", "_law_mates", "_law_cell", "_law_option", "_law_other"], ["_law_pen_here", "_law_sizes_here", "_law_whens"], "_law_step", defArgs (tp 12), defBody (tp 12), defScope (tp 12)⟩
def f_law_deeds_b_0 : Rx.S := (.asg (.nm 4) (.lstM .nil))
def f_law_deeds_b_1_b_0 : Rx.S := (.asg (.nm 6) (.call .ef "_law_draw" (.cons (.var 0) (.cons (.bin .add (.var 3) (.c (.int 1))) .nil))))
def f_law_deeds_b_1_b_1 : Rx.S := (.ex (.bm .append (.var 4) (.cons (.b1 .tuple (.lc (.rng (.cons (.var 6) .nil)) (.nm 7) (.c (.bl true)) (.call .ef "_law_step" (.cons (.var 0) (.cons (.var 1) (.cons (.call .ef "_law_draw" (.cons (.var 0) (.cons (.c (.int 3)) .nil))) .nil)))))) .nil)))
def f_law_deeds_b_1_b : Rx.Ss := (.cons f_law_deeds_b_1_b_0 (.cons f_law_deeds_b_1_b_1 .nil))
def f_law_deeds_b_1 : Rx.S := (.for_ (.rng (.cons (.var 2) .nil)) (.nm 5) f_law_deeds_b_1_b)
def f_law_deeds_b_2 : Rx.S := (.ret (.b1 .tuple (.var 4)))
def f_law_deeds_b : Rx.Ss := (.cons f_law_deeds_b_0 (.cons f_law_deeds_b_1 (.cons f_law_deeds_b_2 .nil)))
def f_law_deeds : Rx.Row := ⟨⟨"_law_deeds", 4, 8, f_law_deeds_b⟩, ["_law_pen_here", "_law_sizes_here", "_law_many", "_law_steps", "_law_found", "_law_lap", "_law_often", "_law_turn"], ["_law_pen_here", "_law_sizes_here", "_law_many", "_law_steps"], "_law_deeds", defArgs (tp 13), defBody (tp 13), defScope (tp 13)⟩
def f_law_nodes_b_0 : Rx.S := (.asg (.nm 3) (.lstM .nil))
def f_law_nodes_b_1_b_0_b_0 : Rx.S := (.ex (.bm .append (.var 3) (.cons (.tup (.cons (.c (.str "answer")) (.cons (.ix (.lstF (.cons (.c (.int 0)) (.cons (.c (.int 1)) (.cons (.c (.int 1)) (.cons (.c (.int 2)) (.cons (.c (.int 9)) .nil)))))) (.call .ef "_law_draw" (.cons (.var 0) (.cons (.c (.int 5)) .nil)))) .nil))) .nil)))
def f_law_nodes_b_1_b_0_b : Rx.Ss := (.cons f_law_nodes_b_1_b_0_b_0 .nil)
def f_law_nodes_b_1_b_0_e_0 : Rx.S := (.asg (.nm 5) (.call .ef "_law_draw" (.cons (.var 0) (.cons (.b1 .len (.var 1)) .nil))))
def f_law_nodes_b_1_b_0_e_1 : Rx.S := (.asg (.nm 6) (.lc (.rng (.cons (.ix (.var 1) (.var 5)) .nil)) (.nm 7) (.c (.bl true)) (.bin .add (.bin .add (.var 4) (.c (.int 1))) (.call .ef "_law_draw" (.cons (.var 0) (.cons (.bin .sub (.bin .sub (.var 2) (.c (.int 1))) (.var 4)) .nil))))))
def f_law_nodes_b_1_b_0_e_2 : Rx.S := (.ex (.bm .append (.var 3) (.cons (.tup (.cons (.c (.str "look")) (.cons (.var 5) (.cons (.b1 .tuple (.var 6)) .nil)))) .nil)))
def f_law_nodes_b_1_b_0_e : Rx.Ss := (.cons f_law_nodes_b_1_b_0_e_0 (.cons f_law_nodes_b_1_b_0_e_1 (.cons f_law_nodes_b_1_b_0_e_2 .nil)))
def f_law_nodes_b_1_b_0 : Rx.S := (.ite (.or_ (.cmp .gt (.var 4) (.bin .sub (.var 2) (.c (.int 3)))) (.and_ (.cmp .eq (.call .ef "_law_draw" (.cons (.var 0) (.cons (.c (.int 5)) .nil))) (.c (.int 0))) (.cmp .gt (.var 4) (.c (.int 0))))) f_law_nodes_b_1_b_0_b f_law_nodes_b_1_b_0_e)
def f_law_nodes_b_1_b : Rx.Ss := (.cons f_law_nodes_b_1_b_0 .nil)
def f_law_nodes_b_1 : Rx.S := (.for_ (.rng (.cons (.var 2) .nil)) (.nm 4) f_law_nodes_b_1_b)
def f_law_nodes_b_2 : Rx.S := (.ret (.b1 .tuple (.var 3)))
def f_law_nodes_b : Rx.Ss := (.cons f_law_nodes_b_0 (.cons f_law_nodes_b_1 (.cons f_law_nodes_b_2 .nil)))
def f_law_nodes : Rx.Row := ⟨⟨"_law_nodes", 3, 8, f_law_nodes_b⟩, ["_law_pen_here", "_law_sizes_here", "_law_many", "_law_found", "_law_index", "_law_cell", "_law_targets", "_law_value"], ["_law_pen_here", "_law_sizes_here", "_law_many"], "_law_nodes", defArgs (tp 14), defBody (tp 14), defScope (tp 14)⟩
def f_law_house_b_0 : Rx.S := (.ret (.tup (.cons (.var 1) (.cons (.call .ef "_law_nodes" (.cons (.var 0) (.cons (.var 1) (.cons (.var 2) .nil)))) (.cons (.call .ef "_law_deeds" (.cons (.var 0) (.cons (.var 1) (.cons (.var 3) (.cons (.var 4) .nil))))) .nil)))))
def f_law_house_b : Rx.Ss := (.cons f_law_house_b_0 .nil)
def f_law_house : Rx.Row := ⟨⟨"_law_house", 5, 5, f_law_house_b⟩, ["_law_pen_here", "_law_sizes_here", "_law_nodes_here", "_law_deeds_here", "_law_steps"], ["_law_pen_here", "_law_sizes_here", "_law_nodes_here", "_law_deeds_here", "_law_steps"], "_law_house", defArgs (tp 15), defBody (tp 15), defScope (tp 15)⟩
def f_law_some_house_b_0 : Rx.S := (.par [1, 2] (.cons (.ix (.lstF (.cons (.c (.int 3)) (.cons (.c (.int 4)) (.cons (.c (.int 5)) (.cons (.c (.int 6)) (.cons (.c (.int 7)) (.cons (.c (.int 12)) .nil))))))) (.call .ef "_law_draw" (.cons (.var 0) (.cons (.c (.int 6)) .nil)))) (.cons (.ix (.lstF (.cons (.c (.int 0)) (.cons (.c (.int 1)) (.cons (.c (.int 2)) (.cons (.c (.int 3)) (.cons (.c (.int 6)) .nil)))))) (.call .ef "_law_draw" (.cons (.var 0) (.cons (.c (.int 5)) .nil)))) .nil)))
def f_law_some_house_b_1 : Rx.S := (.ret (.call .ef "_law_house" (.cons (.var 0) (.cons (.call .ef "_law_sizes" (.cons (.var 0) .nil)) (.cons (.var 1) (.cons (.var 2) (.cons (.c (.int 3)) .nil)))))))
def f_law_some_house_b : Rx.Ss := (.cons f_law_some_house_b_0 (.cons f_law_some_house_b_1 .nil))
def f_law_some_house : Rx.Row := ⟨⟨"_law_some_house", 1, 3, f_law_some_house_b⟩, ["_law_pen_here", "_law_nodes_here", "_law_deeds_here"], ["_law_pen_here"], "_law_some_house", defArgs (tp 16), defBody (tp 16), defScope (tp 16)⟩
def f_law_contents_b_0 : Rx.S := (.asg (.nm 1) (.lstF (.cons (.tup .nil) .nil)))
def f_law_contents_b_1_b_0 : Rx.S := (.asg (.nm 3) (.lstM .nil))
def f_law_contents_b_1_b_1_b_0 : Rx.S := (.ex (.bm .extend (.var 3) (.cons (.lc (.rng (.cons (.var 2) .nil)) (.nm 5) (.c (.bl true)) (.bin .add (.var 4) (.tup (.cons (.var 5) .nil)))) .nil)))
def f_law_contents_b_1_b_1_b : Rx.Ss := (.cons f_law_contents_b_1_b_1_b_0 .nil)
def f_law_contents_b_1_b_1 : Rx.S := (.for_ (.sq (.var 1)) (.nm 4) f_law_contents_b_1_b_1_b)
def f_law_contents_b_1_b_2 : Rx.S := (.asg (.nm 1) (.var 3))
def f_law_contents_b_1_b : Rx.Ss := (.cons f_law_contents_b_1_b_0 (.cons f_law_contents_b_1_b_1 (.cons f_law_contents_b_1_b_2 .nil)))
def f_law_contents_b_1 : Rx.S := (.for_ (.sq (.ix (.var 0) (.c (.int 0)))) (.nm 2) f_law_contents_b_1_b)
def f_law_contents_b_2 : Rx.S := (.ret (.var 1))
def f_law_contents_b : Rx.Ss := (.cons f_law_contents_b_0 (.cons f_law_contents_b_1 (.cons f_law_contents_b_2 .nil)))
def f_law_contents : Rx.Row := ⟨⟨"_law_contents", 1, 6, f_law_contents_b⟩, ["_law_house_here", "_law_found", "_law_size", "_law_longer", "_law_content", "_law_value"], ["_law_house_here"], "_law_contents", defArgs (tp 17), defBody (tp 17), defScope (tp 17)⟩
def f_law_answer_b_0 : Rx.S := (.par [2, 3] (.cons (.lstM .nil) (.cons (.ix (.ix (.var 0) (.c (.int 1))) (.c (.int 0))) .nil)))
def f_law_answer_b_1_b_0 : Rx.S := (.ex (.bm .append (.var 2) (.cons (.ix (.var 3) (.c (.int 1))) .nil)))
def f_law_answer_b_1_b_1 : Rx.S := (.asg (.nm 3) (.ix (.ix (.var 0) (.c (.int 1))) (.ix (.ix (.var 3) (.c (.int 2))) (.ix (.var 1) (.ix (.var 3) (.c (.int 1)))))))
def f_law_answer_b_1_b : Rx.Ss := (.cons f_law_answer_b_1_b_0 (.cons f_law_answer_b_1_b_1 .nil))
def f_law_answer_b_1 : Rx.S := (.whl (.cmp .eq (.ix (.var 3) (.c (.int 0))) (.c (.str "look"))) f_law_answer_b_1_b)
def f_law_answer_b_2 : Rx.S := (.ret (.tup (.cons (.b1 .tuple (.var 2)) (.cons (.ix (.var 3) (.c (.int 1))) .nil))))
def f_law_answer_b : Rx.Ss := (.cons f_law_answer_b_0 (.cons f_law_answer_b_1 (.cons f_law_answer_b_2 .nil)))
def f_law_answer : Rx.Row := ⟨⟨"_law_answer", 2, 4, f_law_answer_b⟩, ["_law_house_here", "_law_content", "_law_seen", "_law_node"], ["_law_house_here", "_law_content"], "_law_answer", defArgs (tp 18), defBody (tp 18), defScope (tp 18)⟩
def f_law_set_b_0 : Rx.S := (.asg (.nm 2) (.call .pu "_law_contents" (.cons (.var 1) .nil)))
def f_law_set_b_1 : Rx.S := (.asg (.nm 3) (.lc (.sq (.var 2)) (.nm 4) (.cmp .eq (.call .ef "_law_draw" (.cons (.var 0) (.cons (.c (.int 2)) .nil))) (.c (.int 0))) (.var 4)))
def f_law_set_b_2 : Rx.S := (.ret (.ite (.cmp .ne (.var 3) (.lstF .nil)) (.b1 .tuple (.var 3)) (.tup (.cons (.ix (.var 2) (.call .ef "_law_draw" (.cons (.var 0) (.cons (.b1 .len (.var 2)) .nil)))) .nil))))
def f_law_set_b : Rx.Ss := (.cons f_law_set_b_0 (.cons f_law_set_b_1 (.cons f_law_set_b_2 .nil)))
def f_law_set : Rx.Row := ⟨⟨"_law_set", 2, 5, f_law_set_b⟩, ["_law_pen_here", "_law_house_here", "_law_everything", "_law_found", "_law_content"], ["_law_pen_here", "_law_house_here"], "_law_set", defArgs (tp 19), defBody (tp 19), defScope (tp 19)⟩
def f_law_all_cells_b_0 : Rx.S := (.asg (.nm 1) (.lstF (.cons (.tup .nil) .nil)))
def f_law_all_cells_b_1_b_0 : Rx.S := (.asg (.nm 1) (.bin .add (.var 1) (.lc (.sq (.var 1)) (.nm 3) (.c (.bl true)) (.bin .add (.var 3) (.tup (.cons (.var 2) .nil))))))
def f_law_all_cells_b_1_b : Rx.Ss := (.cons f_law_all_cells_b_1_b_0 .nil)
def f_law_all_cells_b_1 : Rx.S := (.for_ (.rng (.cons (.b1 .len (.ix (.var 0) (.c (.int 0)))) .nil)) (.nm 2) f_law_all_cells_b_1_b)
def f_law_all_cells_b_2 : Rx.S := (.ret (.var 1))
def f_law_all_cells_b : Rx.Ss := (.cons f_law_all_cells_b_0 (.cons f_law_all_cells_b_1 (.cons f_law_all_cells_b_2 .nil)))
def f_law_all_cells : Rx.Row := ⟨⟨"_law_all_cells", 1, 4, f_law_all_cells_b⟩, ["_law_house_here", "_law_found", "_law_cell", "_law_cells"], ["_law_house_here"], "_law_all_cells", defArgs (tp 20), defBody (tp 20), defScope (tp 20)⟩
def f_law_twin_pairs_b_0 : Rx.S := (.asg (.nm 3) (.lstM .nil))
def f_law_twin_pairs_b_1_b_0_b_0 : Rx.S := (.asg (.nm 7) (.cmp .eq (.lc (.sq (.var 2)) (.nm 8) (.cmp .ne (.ix (.var 5) (.var 8)) (.ix (.var 6) (.var 8))) (.var 8)) (.lstF .nil)))
def f_law_twin_pairs_b_1_b_0_b_1_b_0 : Rx.S := (.ex (.bm .append (.var 3) (.cons (.tup (.cons (.var 5) (.cons (.var 6) .nil))) .nil)))
def f_law_twin_pairs_b_1_b_0_b_1_b : Rx.Ss := (.cons f_law_twin_pairs_b_1_b_0_b_1_b_0 .nil)
def f_law_twin_pairs_b_1_b_0_b_1 : Rx.S := (.ite (.and_ (.var 7) (.cmp .ne (.ix (.call .pu "_law_answer" (.cons (.var 0) (.cons (.var 5) .nil))) (.c (.int 1))) (.ix (.call .pu "_law_answer" (.cons (.var 0) (.cons (.var 6) .nil))) (.c (.int 1))))) f_law_twin_pairs_b_1_b_0_b_1_b .nil)
def f_law_twin_pairs_b_1_b_0_b : Rx.Ss := (.cons f_law_twin_pairs_b_1_b_0_b_0 (.cons f_law_twin_pairs_b_1_b_0_b_1 .nil))
def f_law_twin_pairs_b_1_b_0 : Rx.S := (.for_ (.sq (.slc (.var 1) (.bin .add (.var 4) (.c (.int 1))) (.c .hole))) (.nm 6) f_law_twin_pairs_b_1_b_0_b)
def f_law_twin_pairs_b_1_b : Rx.Ss := (.cons f_law_twin_pairs_b_1_b_0 .nil)
def f_law_twin_pairs_b_1 : Rx.S := (.for_ (.enum (.var 1)) (.tp (.cons (.nm 4) (.cons (.nm 5) .nil))) f_law_twin_pairs_b_1_b)
def f_law_twin_pairs_b_2 : Rx.S := (.ret (.var 3))
def f_law_twin_pairs_b : Rx.Ss := (.cons f_law_twin_pairs_b_0 (.cons f_law_twin_pairs_b_1 (.cons f_law_twin_pairs_b_2 .nil)))
def f_law_twin_pairs : Rx.Row := ⟨⟨"_law_twin_pairs", 3, 9, f_law_twin_pairs_b⟩, ["_law_house_here", "_law_some", "_law_cells", "_law_found", "_law_at", "_law_one", "_law_two", "_law_agrees", "_law_cell"], ["_law_house_here", "_law_some", "_law_cells"], "_law_twin_pairs", defArgs (tp 21), defBody (tp 21), defScope (tp 21)⟩
def f_law_b_0 : Rx.S := (.asg (.nm 1) (.call .ef "_law_pen" (.cons (.var 0) .nil)))
def f_law_b_1_b_0 : Rx.S := (.asg (.nm 6) (.call .ef "_law_some_house" (.cons (.var 1) .nil)))
def f_law_b_1_b_1_b_0 : Rx.S := (.asg (.nm 7) (.lc (.sq (.call .pu "_law_all_cells" (.cons (.var 6) .nil))) (.nm 9) (.cmp .eq (.call .pu "_law_twin_pairs" (.cons (.var 6) (.cons (.var 5) (.cons (.var 9) .nil)))) (.lstF .nil)) (.var 9)))
def f_law_b_1_b_1_b_1 : Rx.S := (.asg (.nm 8) (.lstM .nil))
def f_law_b_1_b_1_b_2_b_0 : Rx.S := (.asg (.nm 10) (.lc (.rng (.cons (.b1 .len (.var 9)) .nil)) (.nm 12) (.c (.bl true)) (.bin .add (.slc (.var 9) (.c .hole) (.var 12)) (.slc (.var 9) (.bin .add (.var 12) (.c (.int 1))) (.c .hole)))))
def f_law_b_1_b_1_b_2_b_1_b_0 : Rx.S := (.ex (.bm .append (.var 8) (.cons (.var 9) .nil)))
def f_law_b_1_b_1_b_2_b_1_b : Rx.Ss := (.cons f_law_b_1_b_1_b_2_b_1_b_0 .nil)
def f_law_b_1_b_1_b_2_b_1 : Rx.S := (.ite (.cmp .eq (.lc (.sq (.var 10)) (.nm 13) (.cmp .in_ (.var 13) (.var 7)) (.var 13)) (.lstF .nil)) f_law_b_1_b_1_b_2_b_1_b .nil)
def f_law_b_1_b_1_b_2_b : Rx.Ss := (.cons f_law_b_1_b_1_b_2_b_0 (.cons f_law_b_1_b_1_b_2_b_1 .nil))
def f_law_b_1_b_1_b_2 : Rx.S := (.for_ (.sq (.var 7)) (.nm 9) f_law_b_1_b_1_b_2_b)
def f_law_b_1_b_1_b_3_b_0 : Rx.S := (.ret (.c (.bl false)))
def f_law_b_1_b_1_b_3_b : Rx.Ss := (.cons f_law_b_1_b_1_b_3_b_0 .nil)
def f_law_b_1_b_1_b_3 : Rx.S := (.ite (.rcmp true (.call .pu "enough_sets" (.cons (.var 6) (.cons (.var 5) .nil))) (.b1 .tuple (.b1 .sorted (.var 8)))) f_law_b_1_b_1_b_3_b .nil)
def f_law_b_1_b_1_b : Rx.Ss := (.cons f_law_b_1_b_1_b_0 (.cons f_law_b_1_b_1_b_1 (.cons f_law_b_1_b_1_b_2 (.cons f_law_b_1_b_1_b_3 .nil))))
def f_law_b_1_b_1 : Rx.S := (.for_ (.sq (.tup (.cons (.call .ef "_law_set" (.cons (.var 1) (.cons (.var 6) .nil))) (.cons (.b1 .tuple (.call .pu "_law_contents" (.cons (.var 6) .nil))) .nil)))) (.nm 5) f_law_b_1_b_1_b)
def f_law_b_1_b : Rx.Ss := (.cons f_law_b_1_b_0 (.cons f_law_b_1_b_1 .nil))
def f_law_b_1 : Rx.S := (.for_ (.rng (.cons (.b2 .max (.c (.int 2)) (.b2 .min (.c (.int 6)) (.b1 .len (.var 0)))) .nil)) (.nm 2) f_law_b_1_b)
def f_law_b_2 : Rx.S := (.asg (.nm 3) (.tup (.cons (.tup (.cons (.c (.int 2)) (.cons (.c (.int 2)) .nil))) (.cons (.tup (.cons (.tup (.cons (.c (.str "look")) (.cons (.c (.int 0)) (.cons (.tup (.cons (.c (.int 1)) (.cons (.c (.int 2)) .nil))) .nil)))) (.cons (.tup (.cons (.c (.str "answer")) (.cons (.c (.int 0)) .nil))) (.cons (.tup (.cons (.c (.str "answer")) (.cons (.c (.int 1)) .nil))) .nil)))) (.cons (.tup .nil) .nil)))))
def f_law_b_3_b_0 : Rx.S := (.ret (.c (.bl false)))
def f_law_b_3_b : Rx.Ss := (.cons f_law_b_3_b_0 .nil)
def f_law_b_3 : Rx.S := (.ite (.or_ (.cmp .ne (.call .pu "enough_sets" (.cons (.var 3) (.cons (.tup (.cons (.tup (.cons (.c (.int 0)) (.cons (.c (.int 0)) .nil))) (.cons (.tup (.cons (.c (.int 1)) (.cons (.c (.int 1)) .nil))) .nil))) .nil))) (.tup (.cons (.tup (.cons (.c (.int 0)) .nil)) (.cons (.tup (.cons (.c (.int 1)) .nil)) .nil)))) (.cmp .ne (.call .pu "enough_sets" (.cons (.var 3) (.cons (.tup (.cons (.tup (.cons (.c (.int 0)) (.cons (.c (.int 1)) .nil))) .nil)) .nil))) (.tup (.cons (.tup .nil) .nil)))) f_law_b_3_b .nil)
def f_law_b_4 : Rx.S := (.asg (.nm 4) (.tup (.cons (.tup (.cons (.c (.str "look")) (.cons (.c (.int 0)) (.cons (.tup (.cons (.c (.int 1)) (.cons (.c (.int 2)) .nil))) .nil)))) (.cons (.tup (.cons (.c (.str "look")) (.cons (.c (.int 1)) (.cons (.tup (.cons (.c (.int 4)) (.cons (.c (.int 3)) .nil))) .nil)))) (.cons (.tup (.cons (.c (.str "look")) (.cons (.c (.int 1)) (.cons (.tup (.cons (.c (.int 3)) (.cons (.c (.int 5)) .nil))) .nil)))) (.cons (.tup (.cons (.c (.str "look")) (.cons (.c (.int 2)) (.cons (.tup (.cons (.c (.int 4)) (.cons (.c (.int 5)) .nil))) .nil)))) .nil))))))
def f_law_b_5 : Rx.S := (.asg (.nm 4) (.bin .add (.var 4) (.tup (.cons (.tup (.cons (.c (.str "answer")) (.cons (.c (.int 0)) .nil))) (.cons (.tup (.cons (.c (.str "answer")) (.cons (.c (.int 1)) .nil))) .nil)))))
def f_law_b_6 : Rx.S := (.asg (.nm 5) (.b1 .tuple (.lc (.sq (.call .pu "_law_contents" (.cons (.tup (.cons (.tup (.cons (.c (.int 2)) (.cons (.c (.int 2)) (.cons (.c (.int 2)) .nil)))) (.cons (.var 4) (.cons (.tup .nil) .nil)))) .nil))) (.nm 11) (.cmp .in_ (.b1 .sum (.var 11)) (.tup (.cons (.c (.int 0)) (.cons (.c (.int 3)) .nil)))) (.var 11))))
def f_law_b_7 : Rx.S := (.ret (.cmp .eq (.call .pu "enough_sets" (.cons (.tup (.cons (.tup (.cons (.c (.int 2)) (.cons (.c (.int 2)) (.cons (.c (.int 2)) .nil)))) (.cons (.var 4) (.cons (.tup .nil) .nil)))) (.cons (.var 5) .nil))) (.tup (.cons (.tup (.cons (.c (.int 0)) .nil)) (.cons (.tup (.cons (.c (.int 1)) .nil)) (.cons (.tup (.cons (.c (.int 2)) .nil)) .nil))))))
def f_law_b : Rx.Ss := (.cons f_law_b_0 (.cons f_law_b_1 (.cons f_law_b_2 (.cons f_law_b_3 (.cons f_law_b_4 (.cons f_law_b_5 (.cons f_law_b_6 (.cons f_law_b_7 .nil))))))))
def f_law : Rx.Row := ⟨⟨"law", 1, 14, f_law_b⟩, ["_law_script", "_law_pen_here", "_law_turn", "_law_copied", "_law_nodes_here", "_law_some", "_law_house_here", "_law_good", "_law_least", "_law_cells", "_law_less", "_law_content", "_law_at", "_law_one"], ["_law_script"], "law", defArgs (tp 22), defBody (tp 22), defScope (tp 22)⟩
def rows : List Rx.Row := [f_asked, f_twins, f_is_enough, f_all_cells, f_enough_sets, f_law_pen, f_law_fresh, f_law_draw, f_law_sizes, f_law_step, f_law_deeds, f_law_nodes, f_law_house, f_law_some_house, f_law_contents, f_law_answer, f_law_set, f_law_all_cells, f_law_twin_pairs, f_law]
def mdl : Rx.Mdl := ⟨rows, [], ["all", "any", "enumerate", "int", "len", "list", "max", "min", "range", "repr", "sorted", "sum", "tuple"]⟩
theorem f_asked_bd : BindOk f_asked := fun _ _ _ _ _ _ _ us hl => match us, hl with | [_, _], _ => rfl
theorem f_twins_bd : BindOk f_twins := fun _ _ _ _ _ _ _ us hl => match us, hl with | [_, _, _], _ => rfl
theorem f_is_enough_bd : BindOk f_is_enough := fun _ _ _ _ _ _ _ us hl => match us, hl with | [_, _, _], _ => rfl
theorem f_all_cells_bd : BindOk f_all_cells := fun _ _ _ _ _ _ _ us hl => match us, hl with | [_], _ => rfl
theorem f_enough_sets_bd : BindOk f_enough_sets := fun _ _ _ _ _ _ _ us hl => match us, hl with | [_, _], _ => rfl
theorem f_law_pen_bd : BindOk f_law_pen := fun _ _ _ _ _ _ _ us hl => match us, hl with | [_], _ => rfl
theorem f_law_fresh_bd : BindOk f_law_fresh := fun _ _ _ _ _ _ _ us hl => match us, hl with | [_], _ => rfl
theorem f_law_draw_bd : BindOk f_law_draw := fun _ _ _ _ _ _ _ us hl => match us, hl with | [_, _], _ => rfl
theorem f_law_sizes_bd : BindOk f_law_sizes := fun _ _ _ _ _ _ _ us hl => match us, hl with | [_], _ => rfl
theorem f_law_step_bd : BindOk f_law_step := fun _ _ _ _ _ _ _ us hl => match us, hl with | [_, _, _], _ => rfl
theorem f_law_deeds_bd : BindOk f_law_deeds := fun _ _ _ _ _ _ _ us hl => match us, hl with | [_, _, _, _], _ => rfl
theorem f_law_nodes_bd : BindOk f_law_nodes := fun _ _ _ _ _ _ _ us hl => match us, hl with | [_, _, _], _ => rfl
theorem f_law_house_bd : BindOk f_law_house := fun _ _ _ _ _ _ _ us hl => match us, hl with | [_, _, _, _, _], _ => rfl
theorem f_law_some_house_bd : BindOk f_law_some_house := fun _ _ _ _ _ _ _ us hl => match us, hl with | [_], _ => rfl
theorem f_law_contents_bd : BindOk f_law_contents := fun _ _ _ _ _ _ _ us hl => match us, hl with | [_], _ => rfl
theorem f_law_answer_bd : BindOk f_law_answer := fun _ _ _ _ _ _ _ us hl => match us, hl with | [_, _], _ => rfl
theorem f_law_set_bd : BindOk f_law_set := fun _ _ _ _ _ _ _ us hl => match us, hl with | [_, _], _ => rfl
theorem f_law_all_cells_bd : BindOk f_law_all_cells := fun _ _ _ _ _ _ _ us hl => match us, hl with | [_], _ => rfl
theorem f_law_twin_pairs_bd : BindOk f_law_twin_pairs := fun _ _ _ _ _ _ _ us hl => match us, hl with | [_, _, _], _ => rfl
theorem f_law_bd : BindOk f_law := fun _ _ _ _ _ _ _ us hl => match us, hl with | [_], _ => rfl
theorem bd : ∀ r ∈ rows, BindOk r := by
  intro r m
  simp only [rows, List.mem_cons, List.mem_nil_iff, or_false] at m
  rcases m with rfl | rfl | rfl | rfl | rfl | rfl | rfl | rfl | rfl | rfl | rfl | rfl | rfl | rfl | rfl | rfl | rfl | rfl | rfl | rfl
  · exact f_asked_bd
  · exact f_twins_bd
  · exact f_is_enough_bd
  · exact f_all_cells_bd
  · exact f_enough_sets_bd
  · exact f_law_pen_bd
  · exact f_law_fresh_bd
  · exact f_law_draw_bd
  · exact f_law_sizes_bd
  · exact f_law_step_bd
  · exact f_law_deeds_bd
  · exact f_law_nodes_bd
  · exact f_law_house_bd
  · exact f_law_some_house_bd
  · exact f_law_contents_bd
  · exact f_law_answer_bd
  · exact f_law_set_bd
  · exact f_law_all_cells_bd
  · exact f_law_twin_pairs_bd
  · exact f_law_bd
theorem bx : ∀ r ∈ mdl.xs, BindX r := fun r m => nomatch m
theorem chk : mdl.chk = true := by decide +kernel
abbrev T : List Fn := rows.map (·.fn)
end Lw

/-! ### the law's answer -/
namespace Lw
open PySem L2 Rx
structure Fx (cl : Cl) : Prop where
  pen : PenS cl
  some : SomeS cl "_law_some_house"
  cont : ContS cl "_law_contents" .lst
  set : SetS cl
  prs : PairsS cl
  cells : CellsS cl
  es : EsS cl
theorem pt : PenT T := ⟨rfl, rfl, rfl⟩
theorem dt : DrawT T := ⟨pt, rfl, rfl⟩
theorem fx : Fx (callN T 30 8) where
  pen := penS (k := 7) pt
  some := someS (k := 7) rfl (drawS (k := 5) pt) (sizesS (k := 4) pt rfl) (houseS (k := 0) dt rfl rfl)
  cont := lawContS (k := 7) rfl
  set := setS (k := 5) pt rfl rfl
  prs := pairsS (k := 7) rfl (askedS (k := 6) rfl (by decide))
  cells := cellsS (k := 7) rfl
  es := esS (k := 7) rfl (allCS (k := 6) rfl) (enoughS (k := 6) rfl (twinsS (k := 5) rfl (askedS (k := 4) rfl (by decide))))
variable {cl : Cl}
abbrev envL (ns : List Int) (x2 x3 x4 x5 x6 x7 x8 x9 x10 x11 x12 x13 : Option D) : Ev := [some (.slst (ns.map D.int)), some (.ref 0), x2, x3, x4, x5, x6, x7, x8, x9, x10, x11, x12, x13]
abbrev dCs (l : List (List Nat)) : D := .lst (l.map dCells)
theorem last_at (h : Hq) (o : Ob) : (h ++ [o])[h.length]? = some o := by rw [List.getElem?_append_right (Nat.le_refl _)]; simp
theorem last_set (h : Hq) (o o' : Ob) : (h ++ [o]).set h.length o' = h ++ [o'] := by rw [List.set_append_right _ _ (Nat.le_refl _)]; simp
theorem least_loop (ns : List Int) (good : List (List Nat)) (h : Hq) (x2 x3 x4 x5 x6 : Option D) : ∀ (L acc : List (List Nat)) (x9 x10 : Option D), (∀ c ∈ L, c.length ≤ 100) → acc.length + L.length ≤ 1000 →
    ∃ x9' x10', forL none (fun d ρ h => evT cl (.nm 9) d ρ h) (fun ρ h => evSs cl 30 f_law_b_1_b_1_b_2_b ρ h) (L.map dCells) (envL ns x2 x3 x4 x5 x6 (some (dCs good)) (some (.ref h.length)) x9 x10 none none none) (h ++ [.lst (acc.map dCells)]) =
      .nx (envL ns x2 x3 x4 x5 x6 (some (dCs good)) (some (.ref h.length)) x9' x10' none none none) (h ++ [.lst ((acc ++ L.filter fun c => (lessM c).all fun l => !decide (l ∈ good)).map dCells)])
  | [], acc, x9, x10, _, _ => ⟨x9, x10, by rw [List.filter_nil, List.append_nil]; rfl⟩
  | c :: L, acc, x9, x10, lc, la => by
    have l100 := lc c (List.mem_cons_self ..)
    rw [List.length_cons] at la
    obtain ⟨hh, ehh⟩ : ∃ hh, hh = h ++ [Ob.lst (acc.map dCells)] := ⟨_, rfl⟩
    rw [← ehh]
    have ll : (lessM c).length = c.length := by unfold lessM; rw [List.length_map, List.length_range]
    have s0 : evS cl 30 f_law_b_1_b_1_b_2_b_0 (envL ns x2 x3 x4 x5 x6 (some (dCs good)) (some (.ref h.length)) (some (dCells c)) x10 none none none) hh = .nx (envL ns x2 x3 x4 x5 x6 (some (dCs good)) (some (.ref h.length)) (some (dCells c)) (some (dCs (lessM c))) none none none) hh := by
      have ln : b1D hh .len (dCells c) = .ok (nat c.length) hh := by
        show R.ok (D.int ((c.map nat).length : Nat)) hh = _
        rw [List.length_map]; rfl
      refine ev_asg (ev_lc (ev_rng (n := c.length) (h1 := hh) (ev_b1 (o := .len) rfl ln) (by omega)) (fits_small (by rw [List.length_map, List.length_range]; omega)) ?_)
      rw [lcL_map (f := nat) (p := fun _ => true) (g := fun i => dCells (c.take i ++ c.drop (i + 1))) (h := hh) (List.range c.length) (fun i m => ?_), filtT, lessM, List.map_map]
      · rfl
      · have hi := List.mem_range.mp m
        refine ⟨envL ns x2 x3 x4 x5 x6 (some (dCs good)) (some (.ref h.length)) (some (dCells c)) x10 none (some (nat i)) none, rfl, rfl, fun _ => ?_⟩
        have a1 : evE cl (.slc (.var 9) (.c .hole) (.var 12)) (envL ns x2 x3 x4 x5 x6 (some (dCs good)) (some (.ref h.length)) (some (dCells c)) x10 none (some (nat i)) none) hh = .ok (dCells (c.take i)) hh := by
          have q := slc_toN hh (xs := c.map nat) (i := i) (by rw [List.length_map]; omega)
          rw [← List.map_take] at q
          show R.of (slcD hh (.tup (c.map nat)) .hole (nat i)) hh = _
          rw [q]; rfl
        have a2 : evE cl (.slc (.var 9) (.bin .add (.var 12) (.c (.int 1))) (.c .hole)) (envL ns x2 x3 x4 x5 x6 (some (dCs good)) (some (.ref h.length)) (some (dCells c)) x10 none (some (nat i)) none) hh = .ok (dCells (c.drop (i + 1))) hh := by
          have q := slc_from (h := hh) (xs := c.map nat) (i := i)
          rw [← List.map_drop] at q
          show R.of (slcD hh (.tup (c.map nat)) (.int ((i : Int) + 1)) .hole) hh = _
          rw [q]; rfl
        rw [evE, a1, R.bind_ok, a2, R.bind_ok, add_cells hh _ _ (by rw [List.length_take, List.length_drop]; omega)]; rfl
    have pl : (((lessM c).filter fun l => decide (l ∈ good)).map dCells).all (plain 59) = true := by
      rw [List.all_map, List.all_eq_true]; exact fun l _ => plain_cells l 58
    have em := eq_emp (h := hh) pl
    have cond : evE cl (.cmp .eq (.lc (.sq (.var 10)) (.nm 13) (.cmp .in_ (.var 13) (.var 7)) (.var 13)) (.lstF .nil)) (envL ns x2 x3 x4 x5 x6 (some (dCs good)) (some (.ref h.length)) (some (dCells c)) (some (dCs (lessM c))) none none none) hh = .ok (.bl ((lessM c).all fun l => !decide (l ∈ good))) hh := by
      have e1 : evE cl (.lc (.sq (.var 10)) (.nm 13) (.cmp .in_ (.var 13) (.var 7)) (.var 13)) (envL ns x2 x3 x4 x5 x6 (some (dCs good)) (some (.ref h.length)) (some (dCells c)) (some (dCs (lessM c))) none none none) hh = .ok (dCs ((lessM c).filter fun l => decide (l ∈ good))) hh := by
        refine ev_lc (ev_sq (b := false) (xs := (lessM c).map dCells) (h1 := hh) rfl) (fits_small (by rw [List.length_map]; omega)) ?_
        rw [lcL_map (f := dCells) (p := fun l => decide (l ∈ good)) (g := dCells) (h := hh) (lessM c) (fun l _ => ?_)]
        refine ⟨envL ns x2 x3 x4 x5 x6 (some (dCs good)) (some (.ref h.length)) (some (dCells c)) (some (dCs (lessM c))) none none (some (dCells l)), rfl, ?_, fun _ => rfl⟩
        have := in_cells (h := hh) l good
        show R.bind (R.of ((cmpD hh .in_ (dCells l) (dCs good)).map D.bl) hh) _ = _
        rw [this]; rfl
      have e2 : (((lessM c).filter fun l => decide (l ∈ good)).map dCells).isEmpty = (lessM c).all fun l => !decide (l ∈ good) := by
        rw [List.isEmpty_map]
        induction lessM c with
        | nil => rfl
        | cons a r ih =>
          rw [List.filter_cons, List.all_cons, ← ih]
          cases decide (a ∈ good) <;> rfl
      rw [e2] at em
      rw [evE, e1, R.bind_ok]
      show R.of ((cmpD hh .eq (dCs ((lessM c).filter fun l => decide (l ∈ good))) (.lst [])).map D.bl) hh = _
      rw [em]; rfl
    by_cases b : ((lessM c).all fun l => !decide (l ∈ good)) = true
    · have s1 : evS cl 30 f_law_b_1_b_1_b_2_b_1 (envL ns x2 x3 x4 x5 x6 (some (dCs good)) (some (.ref h.length)) (some (dCells c)) (some (dCs (lessM c))) none none none) hh = .nx (envL ns x2 x3 x4 x5 x6 (some (dCs good)) (some (.ref h.length)) (some (dCells c)) (some (dCs (lessM c))) none none none) (h ++ [.lst ((acc ++ [c]).map dCells)]) := by
        refine (ev_if (t := true) (h1 := hh) (by rw [tst, cond, b]; rfl)).trans ?_
        rw [if_pos rfl]
        refine seq_one ?_
        rw [ehh]
        refine (ev_append (i := 8) (e := .var 9) (q := h.length) (h2 := h ++ [.lst (acc.map dCells)]) (d := dCells c) (xs := acc.map dCells) (ys := acc.map dCells) rfl (last_at _ _) rfl (last_at _ _) (small_size (by rw [List.length_map]; omega))).trans ?_
        rw [last_set, List.map_append]; rfl
      obtain ⟨y9, y10, ih⟩ := least_loop ns good h x2 x3 x4 x5 x6 L (acc ++ [c]) (some (dCells c)) (some (dCs (lessM c))) (fun d m => lc d (List.mem_cons_of_mem _ m)) (by rw [List.length_append]; show acc.length + 1 + _ ≤ _; omega)
      refine ⟨y9, y10, ?_⟩
      rw [List.map_cons, forL, if_pos (show unch none _ = true from rfl)]
      show Out.of (R.ok (envL ns x2 x3 x4 x5 x6 (some (dCs good)) (some (.ref h.length)) (some (dCells c)) x10 none none none) hh) _ _ = _
      rw [Out.of_ok, show evSs cl 30 f_law_b_1_b_1_b_2_b (envL ns x2 x3 x4 x5 x6 (some (dCs good)) (some (.ref h.length)) (some (dCells c)) x10 none none none) hh = _ from (seq_nx s0).trans (seq_one s1)]
      rw [List.filter_cons, if_pos b]
      refine ih.trans ?_
      rw [List.append_assoc]; rfl
    · have s1 : evS cl 30 f_law_b_1_b_1_b_2_b_1 (envL ns x2 x3 x4 x5 x6 (some (dCs good)) (some (.ref h.length)) (some (dCells c)) (some (dCs (lessM c))) none none none) hh = .nx (envL ns x2 x3 x4 x5 x6 (some (dCs good)) (some (.ref h.length)) (some (dCells c)) (some (dCs (lessM c))) none none none) hh :=
        skip_ (by rw [cond, (Bool.not_eq_true _).mp b])
      obtain ⟨y9, y10, ih⟩ := least_loop ns good h x2 x3 x4 x5 x6 L acc (some (dCells c)) (some (dCs (lessM c))) (fun d m => lc d (List.mem_cons_of_mem _ m)) (by omega)
      refine ⟨y9, y10, ?_⟩
      rw [List.map_cons, forL, if_pos (show unch none _ = true from rfl)]
      show Out.of (R.ok (envL ns x2 x3 x4 x5 x6 (some (dCs good)) (some (.ref h.length)) (some (dCells c)) x10 none none none) hh) _ _ = _
      rw [Out.of_ok, show evSs cl 30 f_law_b_1_b_1_b_2_b (envL ns x2 x3 x4 x5 x6 (some (dCs good)) (some (.ref h.length)) (some (dCells c)) x10 none none none) hh = _ from (seq_nx s0).trans (seq_one s1)]
      rw [List.filter_cons, if_neg b, ehh]
      exact ih
/-- a set's turn -/
theorem turnC (F : Fx cl) (ns : List Int) {H : Hs} (ok : HsOk H) {cs : List (List Int)} (co : ∀ c ∈ cs, Cok H.sz c) (l8 : cs.length ≤ 8) (x2 x3 x4 x7 x8 x9 x10 : Option D) {h : Hq} (pn : PenOk 0 h) :
    ∃ x7' x8' x9' x10' h', evSs cl 30 f_law_b_1_b_1_b (envL ns x2 x3 x4 (some (.tup (cs.map tD))) (some (dHs H)) x7 x8 x9 x10 none none none) h = .nx (envL ns x2 x3 x4 (some (.tup (cs.map tD))) (some (dHs H)) x7' x8' x9' x10' none none none) h' ∧ PenOk 0 h' := by
  obtain ⟨zs, z⟩ := sides ok cs
  have ac := F.cells (h := h) ok
  obtain ⟨good, hg⟩ : ∃ good, good = (cellsM H.sz.length).filter fun c => (pairsM H c cs).isEmpty := ⟨_, rfl⟩
  have gl : good.length ≤ 8 ∧ ∀ c ∈ good, c.length ≤ 100 := by
    have k : (cellsM H.sz.length).length ≤ 8 := by rcases n_cases ok with e | e | e <;> rw [e] <;> decide +kernel
    refine ⟨by rw [hg]; exact Nat.le_trans (List.length_filter_le _ _) k, fun c m => ?_⟩
    rw [hg] at m
    have := (cellsM_ok ok c (List.mem_filter.mp m).1).1
    omega
  have s0 : evS cl 30 f_law_b_1_b_1_b_0 (envL ns x2 x3 x4 (some (.tup (cs.map tD))) (some (dHs H)) x7 x8 x9 x10 none none none) h = .nx (envL ns x2 x3 x4 (some (.tup (cs.map tD))) (some (dHs H)) (some (dCs good)) x8 x9 x10 none none none) h := by
    have k : (cellsM H.sz.length).length ≤ 8 := by rcases n_cases ok with e | e | e <;> rw [e] <;> decide +kernel
    refine ev_asg (ev_lc (ev_sq (b := false) (xs := (cellsM H.sz.length).map dCells) (h1 := h) ?_) (fits_small (by rw [List.length_map]; omega)) ?_)
    · simp only [evSs, evS, evE, evEs, evT, evTs, evIt, R.bind_ok, R.of_some, Out.of_ok, R.nox, tst, Option.map_some, Option.map, List.getElem?_cons_zero, List.getElem?_cons_succ, List.set_cons_zero, List.set_cons_succ, tru_bl, add_ii, sub_ii, lt_ii, ge_ii, int_i, if_true, if_false, Bool.false_eq_true, Bool.not_true, Bool.not_false, callD]
      exact ac
    · rw [lcL_map (f := dCells) (p := fun c => (pairsM H c cs).isEmpty) (g := dCells) (h := h) (cellsM H.sz.length) (fun c m => ?_), hg]
      have cell := cellsM_ok ok c m
      have b1 := F.prs (h := h) ok co (by omega) cell
      have pl : ((pairsM H c cs).map dPair).all (plain 59) = true := by
        rw [List.all_map, List.all_eq_true]; exact fun q _ => plain_pair q 57
      have em := eq_emp (h := h) pl
      rw [List.isEmpty_map] at em
      refine ⟨envL ns x2 x3 x4 (some (.tup (cs.map tD))) (some (dHs H)) x7 x8 (some (dCells c)) x10 none none none, rfl, ?_, fun _ => rfl⟩
      have e : evE cl (.cmp .eq (.call .pu "_law_twin_pairs" (.cons (.var 6) (.cons (.var 5) (.cons (.var 9) .nil)))) (.lstF .nil)) (envL ns x2 x3 x4 (some (.tup (cs.map tD))) (some (dHs H)) x7 x8 (some (dCells c)) x10 none none none) h = .ok (.bl (pairsM H c cs).isEmpty) h := by
        have e1 : evE cl (.call .pu "_law_twin_pairs" (.cons (.var 6) (.cons (.var 5) (.cons (.var 9) .nil)))) (envL ns x2 x3 x4 (some (.tup (cs.map tD))) (some (dHs H)) x7 x8 (some (dCells c)) x10 none none none) h = .ok (.lst ((pairsM H c cs).map dPair)) h := by
          simp only [evSs, evS, evE, evEs, evT, evTs, evIt, R.bind_ok, R.of_some, Out.of_ok, R.nox, tst, Option.map_some, Option.map, List.getElem?_cons_zero, List.getElem?_cons_succ, List.set_cons_zero, List.set_cons_succ, tru_bl, add_ii, sub_ii, lt_ii, ge_ii, int_i, if_true, if_false, Bool.false_eq_true, Bool.not_true, Bool.not_false, callD]
          exact b1
        rw [evE, e1, R.bind_ok]
        show R.of ((cmpD h .eq (.lst ((pairsM H c cs).map dPair)) (.lst [])).map D.bl) h = _
        rw [em]; rfl
      rw [tst, e]; rfl
  have s1 : evS cl 30 f_law_b_1_b_1_b_1 (envL ns x2 x3 x4 (some (.tup (cs.map tD))) (some (dHs H)) (some (dCs good)) x8 x9 x10 none none none) h = .nx (envL ns x2 x3 x4 (some (.tup (cs.map tD))) (some (dHs H)) (some (dCs good)) (some (.ref h.length)) x9 x10 none none none) (h ++ [.lst []]) := rfl
  obtain ⟨x9', x10', lp⟩ := least_loop (cl := cl) ns good h x2 x3 x4 (some (.tup (cs.map tD))) (some (dHs H)) good [] x9 x10 gl.2 (by have := gl.1; show 0 + _ ≤ _; omega)
  have s2 : evS cl 30 f_law_b_1_b_1_b_2 (envL ns x2 x3 x4 (some (.tup (cs.map tD))) (some (dHs H)) (some (dCs good)) (some (.ref h.length)) x9 x10 none none none) (h ++ [.lst []]) = _ := ev_for (ev_sq (b := false) (xs := good.map dCells) (h1 := h ++ [.lst []]) rfl) lp
  have ez : ([] ++ good.filter fun c => (lessM c).all fun l => !decide (l ∈ good)) = leastM good := rfl
  rw [ez] at s2
  rw [← hg] at z
  have es := F.es (h := h ++ [.lst ((leastM good).map dCells)]) ok co (by omega) z.a z.fz
  have srt2 : evE cl (.b1 .tuple (.b1 .sorted (.var 8))) (envL ns x2 x3 x4 (some (.tup (cs.map tD))) (some (dHs H)) (some (dCs good)) (some (.ref h.length)) x9' x10' none none none) (h ++ [.lst ((leastM good).map dCells)]) = .ok (.tup zs) (h ++ [.lst ((leastM good).map dCells)]) := by
    have v : view (h ++ [.lst ((leastM good).map dCells)]) (.ref h.length) = .lst ((leastM good).map dCells) := by
      show (match (h ++ [.lst ((leastM good).map dCells)])[h.length]? with
        | some (.lst xs) => D.lst xs
        | some (.dct ks vs) => D.dct ks vs
        | _ => D.ref h.length) = _
      rw [last_at]
    have := sorted_K v
    rw [z.b] at this
    exact ev_b1 (o := .tuple) (ev_b1 (o := .sorted) rfl this) (tuple_l _)
  have s3 : evS cl 30 f_law_b_1_b_1_b_3 (envL ns x2 x3 x4 (some (.tup (cs.map tD))) (some (dHs H)) (some (dCs good)) (some (.ref h.length)) x9' x10' none none none) (h ++ [.lst ((leastM good).map dCells)]) = .nx (envL ns x2 x3 x4 (some (.tup (cs.map tD))) (some (dHs H)) (some (dCs good)) (some (.ref h.length)) x9' x10' none none none) (h ++ [.lst ((leastM good).map dCells)]) :=
    skip_ (same_rcmp (neg := true) (d := .tup zs) (h1 := h ++ [.lst ((leastM good).map dCells)]) (h2 := h ++ [.lst ((leastM good).map dCells)]) (by simp only [evSs, evS, evE, evEs, evT, evTs, evIt, R.bind_ok, R.of_some, Out.of_ok, R.nox, tst, Option.map_some, Option.map, List.getElem?_cons_zero, List.getElem?_cons_succ, List.set_cons_zero, List.set_cons_succ, tru_bl, add_ii, sub_ii, lt_ii, ge_ii, int_i, if_true, if_false, Bool.false_eq_true, Bool.not_true, Bool.not_false, callD]; exact es) srt2 z.sh fun _ => rfl)
  exact ⟨_, _, x9', x10', _, (seq_nx s0).trans ((seq_nx s1).trans ((seq_nx s2).trans (seq_one s3))), (Pn.push pn _).pen⟩
theorem turn (F : Fx cl) (ns : List Int) (x2 x3 x4 x5 x6 x7 x8 x9 x10 : Option D) {h : Hq} (pn : PenOk 0 h) : ∃ ρ2 h2, evSs cl 30 f_law_b_1_b (envL ns x2 x3 x4 x5 x6 x7 x8 x9 x10 none none none) h = .nx ρ2 h2 ∧ (∃ x2 x5 x6 x7 x8 x9 x10, ρ2 = envL ns x2 x3 x4 x5 x6 x7 x8 x9 x10 none none none) ∧ PenOk 0 h2 := by
  obtain ⟨H, h1, ok, p1, q1⟩ := F.some pn
  obtain ⟨cok, c8, c2, -⟩ := contM_ok ok
  have s0 : evS cl 30 f_law_b_1_b_0 (envL ns x2 x3 x4 x5 x6 x7 x8 x9 x10 none none none) h = .nx (envL ns x2 x3 x4 x5 (some (dHs H)) x7 x8 x9 x10 none none none) h1 := by
    refine ev_asg ?_
    simp only [evSs, evS, evE, evEs, evT, evTs, evIt, R.bind_ok, R.of_some, Out.of_ok, R.nox, tst, Option.map_some, Option.map, List.getElem?_cons_zero, List.getElem?_cons_succ, List.set_cons_zero, List.set_cons_succ, tru_bl, add_ii, sub_ii, lt_ii, ge_ii, int_i, if_true, if_false, Bool.false_eq_true, Bool.not_true, Bool.not_false, callD]
    exact q1
  obtain ⟨cs, h2, ne, sub, p2, q2⟩ := F.set p1.pen ok
  have lc := F.cont (h := h2) ok
  have it : evIt cl (.sq (.tup (.cons (.call .ef "_law_set" (.cons (.var 1) (.cons (.var 6) .nil))) (.cons (.b1 .tuple (.call .pu "_law_contents" (.cons (.var 6) .nil))) .nil)))) (envL ns x2 x3 x4 x5 (some (dHs H)) x7 x8 x9 x10 none none none) h1 = .ok (none, [.tup (cs.map tD), .tup ((contM H.sz).map tD)]) h2 := by
    have a : evE cl (.call .ef "_law_set" (.cons (.var 1) (.cons (.var 6) .nil))) (envL ns x2 x3 x4 x5 (some (dHs H)) x7 x8 x9 x10 none none none) h1 = .ok (.tup (cs.map tD)) h2 := by
      simp only [evSs, evS, evE, evEs, evT, evTs, evIt, R.bind_ok, R.of_some, Out.of_ok, R.nox, tst, Option.map_some, Option.map, List.getElem?_cons_zero, List.getElem?_cons_succ, List.set_cons_zero, List.set_cons_succ, tru_bl, add_ii, sub_ii, lt_ii, ge_ii, int_i, if_true, if_false, Bool.false_eq_true, Bool.not_true, Bool.not_false, callD]
      exact q2
    have b : evE cl (.b1 .tuple (.call .pu "_law_contents" (.cons (.var 6) .nil))) (envL ns x2 x3 x4 x5 (some (dHs H)) x7 x8 x9 x10 none none none) h2 = .ok (.tup ((contM H.sz).map tD)) h2 :=
      ev_b1 (o := .tuple) (by simp only [evSs, evS, evE, evEs, evT, evTs, evIt, R.bind_ok, R.of_some, Out.of_ok, R.nox, tst, Option.map_some, Option.map, List.getElem?_cons_zero, List.getElem?_cons_succ, List.set_cons_zero, List.set_cons_succ, tru_bl, add_ii, sub_ii, lt_ii, ge_ii, int_i, if_true, if_false, Bool.false_eq_true, Bool.not_true, Bool.not_false, callD]; exact lc) (tuple_l _)
    refine ev_sq (b := true) (xs := [.tup (cs.map tD), .tup ((contM H.sz).map tD)]) ?_
    rw [evE, evEs, a, R.bind_ok, evEs, b]; rfl
  obtain ⟨ρ3, h3, e3, ⟨y5, y7, y8, y9, y10, rfl⟩, p3⟩ := turns_loop (p := 0) (h := h2) (asg := fun d ρ h => evT cl (.nm 5) d ρ h) (b := fun ρ h => evSs cl 30 f_law_b_1_b_1_b ρ h)
    (fun ρ => ∃ x5 x7 x8 x9 x10, ρ = envL ns x2 x3 x4 x5 (some (dHs H)) x7 x8 x9 x10 none none none) [.tup (cs.map tD), .tup ((contM H.sz).map tD)] ⟨x5, x7, x8, x9, x10, rfl⟩ p2.pen (fun d m ρ hh => by
      rintro ⟨x5, x7, x8, x9, x10, rfl⟩ pn
      obtain ⟨ds, ed, dco, d8⟩ : ∃ ds : List (List Int), d = .tup (ds.map tD) ∧ (∀ c ∈ ds, Cok H.sz c) ∧ ds.length ≤ 8 := by
        simp only [List.mem_cons, List.mem_nil_iff, or_false] at m
        rcases m with rfl | rfl
        · exact ⟨cs, rfl, fun c m => cok c (sub.subset m), by have := sub.length_le; omega⟩
        · exact ⟨_, rfl, cok, c8⟩
      subst ed
      obtain ⟨z7, z8, z9, z10, h', e, pe⟩ := turnC F ns ok dco d8 x2 x3 x4 x7 x8 x9 x10 pn
      exact ⟨_, hh, _, h', rfl, e, ⟨_, _, _, _, _, rfl⟩, pe⟩)
  have s1 : evS cl 30 f_law_b_1_b_1 (envL ns x2 x3 x4 x5 (some (dHs H)) x7 x8 x9 x10 none none none) h1 = _ := ev_for it e3
  exact ⟨_, h3, (seq_nx s0).trans (seq_one s1), ⟨_, _, _, _, _, _, _, rfl⟩, p3⟩
/-! the houses by hand -/
def H1 : Hs := ⟨[2, 2], [.look 0 [1, 2], .ans 0, .ans 1], []⟩
def H2 : Hs := ⟨[2, 2, 2], [.look 0 [1, 2], .look 1 [4, 3], .look 1 [3, 5], .look 2 [4, 5], .ans 0, .ans 1], []⟩
theorem ok1 : HsOk H1 := ⟨by decide, by decide, by decide, by decide, by decide, by decide, fun i n e => by
  match i, e with
  | 0, e => cases e; exact ⟨2, rfl, rfl, by decide⟩
  | 1, e => cases e; exact ⟨by decide, by decide⟩
  | 2, e => cases e; exact ⟨by decide, by decide⟩
  | i + 3, e => simp [H1] at e, by decide, fun d m => nomatch m⟩
theorem ok2 : HsOk H2 := ⟨by decide, by decide, by decide, by decide, by decide, by decide, fun i n e => by
  match i, e with
  | 0, e => cases e; exact ⟨2, rfl, rfl, by decide⟩
  | 1, e => cases e; exact ⟨2, rfl, rfl, by decide⟩
  | 2, e => cases e; exact ⟨2, rfl, rfl, by decide⟩
  | 3, e => cases e; exact ⟨2, rfl, rfl, by decide⟩
  | 4, e => cases e; exact ⟨by decide, by decide⟩
  | 5, e => cases e; exact ⟨by decide, by decide⟩
  | i + 6, e => simp [H2] at e, by decide, fun d m => nomatch m⟩
def cs2 : List (List Int) := [[0, 0, 0], [1, 1, 1]]
abbrev dN1 : D := .tup ([Nd.look 0 [1, 2], .look 1 [4, 3], .look 1 [3, 5], .look 2 [4, 5]].map dNd)
theorem tail_ (F : Fx cl) (ns : List Int) (x2 x4 x5 x6 x7 x8 x9 x10 : Option D) (h : Hq) : ∃ ρ, evSs cl 30 (.cons f_law_b_2 (.cons f_law_b_3 (.cons f_law_b_4 (.cons f_law_b_5 (.cons f_law_b_6 (.cons f_law_b_7 .nil)))))) (envL ns x2 none x4 x5 x6 x7 x8 x9 x10 none none none) h = .rt (.bl true) ρ h := by
  have co1 : ∀ c ∈ ([[0, 0], [1, 1]] : List (List Int)), Cok H1.sz c := fun c m => by
    simp only [List.mem_cons, List.mem_nil_iff, or_false] at m
    rcases m with rfl | rfl <;> exact cok_of (by decide +kernel)
  have co2 : ∀ c ∈ ([[0, 1]] : List (List Int)), Cok H1.sz c := fun c m => by
    rw [List.mem_singleton] at m; subst m; exact cok_of (by decide +kernel)
  have co3 : ∀ c ∈ cs2, Cok H2.sz c := fun c m => by
    simp only [cs2, List.mem_cons, List.mem_nil_iff, or_false] at m
    rcases m with rfl | rfl <;> exact cok_of (by decide +kernel)
  have e1 := F.es (h := h) (zs := [dCells [0], dCells [1]]) ok1 co1 (by decide) (by kernel_rfl) (by decide +kernel)
  have e2 := F.es (h := h) (zs := [dCells []]) ok1 co2 (by decide) (by kernel_rfl) (by decide +kernel)
  have e3 := F.es (h := h) (zs := [dCells [0], dCells [1], dCells [2]]) ok2 co3 (by decide) (by kernel_rfl) (by decide +kernel)
  have s2 : evS cl 30 f_law_b_2 (envL ns x2 none x4 x5 x6 x7 x8 x9 x10 none none none) h = .nx (envL ns x2 (some (dHs H1)) x4 x5 x6 x7 x8 x9 x10 none none none) h := ev_asg rfl
  have s3 : evS cl 30 f_law_b_3 (envL ns x2 (some (dHs H1)) x4 x5 x6 x7 x8 x9 x10 none none none) h = .nx (envL ns x2 (some (dHs H1)) x4 x5 x6 x7 x8 x9 x10 none none none) h := by
    have a : evE cl (.cmp .ne (.call .pu "enough_sets" (.cons (.var 3) (.cons (.tup (.cons (.tup (.cons (.c (.int 0)) (.cons (.c (.int 0)) .nil))) (.cons (.tup (.cons (.c (.int 1)) (.cons (.c (.int 1)) .nil))) .nil))) .nil))) (.tup (.cons (.tup (.cons (.c (.int 0)) .nil)) (.cons (.tup (.cons (.c (.int 1)) .nil)) .nil)))) (envL ns x2 (some (dHs H1)) x4 x5 x6 x7 x8 x9 x10 none none none) h = .ok (.bl false) h := by
      have a1 : evE cl (.call .pu "enough_sets" (.cons (.var 3) (.cons (.tup (.cons (.tup (.cons (.c (.int 0)) (.cons (.c (.int 0)) .nil))) (.cons (.tup (.cons (.c (.int 1)) (.cons (.c (.int 1)) .nil))) .nil))) .nil))) (envL ns x2 (some (dHs H1)) x4 x5 x6 x7 x8 x9 x10 none none none) h = .ok (.tup [dCells [0], dCells [1]]) h := by
        simp only [evSs, evS, evE, evEs, evT, evTs, evIt, R.bind_ok, R.of_some, Out.of_ok, R.nox, tst, Option.map_some, Option.map, List.getElem?_cons_zero, List.getElem?_cons_succ, List.set_cons_zero, List.set_cons_succ, tru_bl, add_ii, sub_ii, lt_ii, ge_ii, int_i, if_true, if_false, Bool.false_eq_true, Bool.not_true, Bool.not_false, callD]
        exact e1
      rw [evE, a1, R.bind_ok]
      show R.of ((cmpD h .ne (.tup [dCells [0], dCells [1]]) (.tup [.tup [.int 0], .tup [.int 1]])).map D.bl) h = _
      kernel_rfl
    have b : evE cl (.cmp .ne (.call .pu "enough_sets" (.cons (.var 3) (.cons (.tup (.cons (.tup (.cons (.c (.int 0)) (.cons (.c (.int 1)) .nil))) .nil)) .nil))) (.tup (.cons (.tup .nil) .nil))) (envL ns x2 (some (dHs H1)) x4 x5 x6 x7 x8 x9 x10 none none none) h = .ok (.bl false) h := by
      have b1 : evE cl (.call .pu "enough_sets" (.cons (.var 3) (.cons (.tup (.cons (.tup (.cons (.c (.int 0)) (.cons (.c (.int 1)) .nil))) .nil)) .nil))) (envL ns x2 (some (dHs H1)) x4 x5 x6 x7 x8 x9 x10 none none none) h = .ok (.tup [dCells []]) h := by
        simp only [evSs, evS, evE, evEs, evT, evTs, evIt, R.bind_ok, R.of_some, Out.of_ok, R.nox, tst, Option.map_some, Option.map, List.getElem?_cons_zero, List.getElem?_cons_succ, List.set_cons_zero, List.set_cons_succ, tru_bl, add_ii, sub_ii, lt_ii, ge_ii, int_i, if_true, if_false, Bool.false_eq_true, Bool.not_true, Bool.not_false, callD]
        exact e2
      rw [evE, b1, R.bind_ok]
      show R.of ((cmpD h .ne (.tup [dCells []]) (.tup [.tup []])).map D.bl) h = _
      kernel_rfl
    refine skip_ ?_
    rw [ev_or (x := false) (r := .ok (.bl false) h) a (fun _ => b)]; rfl
  have s4 : evS cl 30 f_law_b_4 (envL ns x2 (some (dHs H1)) x4 x5 x6 x7 x8 x9 x10 none none none) h = .nx (envL ns x2 (some (dHs H1)) (some dN1) x5 x6 x7 x8 x9 x10 none none none) h := ev_asg rfl
  have s5 : evS cl 30 f_law_b_5 (envL ns x2 (some (dHs H1)) (some dN1) x5 x6 x7 x8 x9 x10 none none none) h = .nx (envL ns x2 (some (dHs H1)) (some (.tup (H2.nd.map dNd))) x5 x6 x7 x8 x9 x10 none none none) h := ev_asg rfl
  have ct := F.cont (h := h) ok2
  rw [show contM H2.sz = [[0, 0, 0], [0, 0, 1], [0, 1, 0], [0, 1, 1], [1, 0, 0], [1, 0, 1], [1, 1, 0], [1, 1, 1]] by decide +kernel] at ct
  have s6 : evS cl 30 f_law_b_6 (envL ns x2 (some (dHs H1)) (some (.tup (H2.nd.map dNd))) x5 x6 x7 x8 x9 x10 none none none) h = .nx (envL ns x2 (some (dHs H1)) (some (.tup (H2.nd.map dNd))) (some (.tup (cs2.map tD))) x6 x7 x8 x9 x10 none none none) h := by
    refine ev_asg (ev_b1 (o := .tuple) (d := .lst (cs2.map tD)) (h1 := h) ?_ (tuple_l _))
    refine ev_lc (ev_sq (b := false) (xs := ([[0, 0, 0], [0, 0, 1], [0, 1, 0], [0, 1, 1], [1, 0, 0], [1, 0, 1], [1, 1, 0], [1, 1, 1]] : List (List Int)).map tD) (h1 := h) ?_) (fits_small (by decide)) ?_
    · simp only [evSs, evS, evE, evEs, evT, evTs, evIt, R.bind_ok, R.of_some, Out.of_ok, R.nox, tst, Option.map_some, Option.map, List.getElem?_cons_zero, List.getElem?_cons_succ, List.set_cons_zero, List.set_cons_succ, tru_bl, add_ii, sub_ii, lt_ii, ge_ii, int_i, if_true, if_false, Bool.false_eq_true, Bool.not_true, Bool.not_false, callD]
      exact ct
    · kernel_rfl
  have s7 : evS cl 30 f_law_b_7 (envL ns x2 (some (dHs H1)) (some (.tup (H2.nd.map dNd))) (some (.tup (cs2.map tD))) x6 x7 x8 x9 x10 none none none) h = .rt (.bl true) (envL ns x2 (some (dHs H1)) (some (.tup (H2.nd.map dNd))) (some (.tup (cs2.map tD))) x6 x7 x8 x9 x10 none none none) h := by
    refine ev_ret ?_
    have a1 : evE cl (.call .pu "enough_sets" (.cons (.tup (.cons (.tup (.cons (.c (.int 2)) (.cons (.c (.int 2)) (.cons (.c (.int 2)) .nil)))) (.cons (.var 4) (.cons (.tup .nil) .nil)))) (.cons (.var 5) .nil))) (envL ns x2 (some (dHs H1)) (some (.tup (H2.nd.map dNd))) (some (.tup (cs2.map tD))) x6 x7 x8 x9 x10 none none none) h = .ok (.tup [dCells [0], dCells [1], dCells [2]]) h := by
      simp only [evSs, evS, evE, evEs, evT, evTs, evIt, R.bind_ok, R.of_some, Out.of_ok, R.nox, tst, Option.map_some, Option.map, List.getElem?_cons_zero, List.getElem?_cons_succ, List.set_cons_zero, List.set_cons_succ, tru_bl, add_ii, sub_ii, lt_ii, ge_ii, int_i, if_true, if_false, Bool.false_eq_true, Bool.not_true, Bool.not_false, callD]
      exact e3
    rw [evE, a1, R.bind_ok]
    show R.of ((cmpD h .eq (.tup [dCells [0], dCells [1], dCells [2]]) (.tup [.tup [.int 0], .tup [.int 1], .tup [.int 2]])).map D.bl) h = _
    kernel_rfl
  exact ⟨_, (seq_nx s2).trans ((seq_nx s3).trans ((seq_nx s4).trans ((seq_nx s5).trans ((seq_nx s6).trans (seq_rt1 s7)))))⟩
theorem whole (F : Fx cl) (ns : List Int) : ∃ ρ h, evSs cl 30 f_law_b [some (.slst (ns.map D.int)), none, none, none, none, none, none, none, none, none, none, none, none, none] [] = .rt (.bl true) ρ h := by
  obtain ⟨h0, e0, p0⟩ := F.pen ns
  obtain ⟨n, nl, en⟩ := turns_okM (cl := cl) (h := h0) (l := 2) (m := 6) (ρ := envL ns none none none none none none none none none none none none) rfl (by omega) (by omega)
  obtain ⟨ρ', h', e1, ⟨x2, x5, x6, x7, x8, x9, x10, rfl⟩, -⟩ := turns_loop (p := 0) (h := h0) (asg := fun d ρ h => evT cl (.nm 2) d ρ h) (b := fun ρ h => evSs cl 30 f_law_b_1_b ρ h)
    (fun ρ => ∃ x2 x5 x6 x7 x8 x9 x10, ρ = envL ns x2 none none x5 x6 x7 x8 x9 x10 none none none) ((List.range n).map nat) (ρ := envL ns none none none none none none none none none none none none) ⟨_, _, _, _, _, _, _, rfl⟩ p0 (fun d _ ρ hh => by
      rintro ⟨x2, x5, x6, x7, x8, x9, x10, rfl⟩ pn
      obtain ⟨ρ2, h2, z1, z2, z3⟩ := turn F ns (some d) none none x5 x6 x7 x8 x9 x10 pn
      exact ⟨_, hh, ρ2, h2, rfl, z1, z2, z3⟩)
  obtain ⟨ρ, et⟩ := tail_ F ns x2 none x5 x6 x7 x8 x9 x10 h'
  refine ⟨ρ, h', ?_⟩
  have s1 : evS cl 30 f_law_b_0 [some (.slst (ns.map D.int)), none, none, none, none, none, none, none, none, none, none, none, none, none] [] = .nx (envL ns none none none none none none none none none none none none) h0 := by
    refine ev_asg ?_
    simp only [evSs, evS, evE, evEs, evT, evTs, evIt, R.bind_ok, R.of_some, Out.of_ok, R.nox, tst, Option.map_some, Option.map, List.getElem?_cons_zero, List.getElem?_cons_succ, List.set_cons_zero, List.set_cons_succ, tru_bl, add_ii, sub_ii, lt_ii, ge_ii, int_i, if_true, if_false, Bool.false_eq_true, Bool.not_true, Bool.not_false, callD]
    exact e0
  have s2 : evS cl 30 f_law_b_1 (envL ns none none none none none none none none none none none none) h0 = _ := ev_for (ev_rng en (by omega)) e1
  exact (seq_nx s1).trans ((seq_nx s2).trans et)
theorem pure_ (ns : List Int) (_ : ns.length ≤ 63) : ∃ q, callN T 30 9 "law" [.slst (ns.map D.int)] [] = .ok (.bl true) q := by
  obtain ⟨ρ, h, e⟩ := whole fx ns
  exact ⟨h, call_rt (f := f_law.fn) (ρ := ρ) rfl rfl e⟩
end Lw


/-! ### the end -/
namespace Lw
open PySem PySem.W PyProof.Rows
abbrev R : OpenRow := OpenLaw.row PySem.Challenge.rw_askanew_k52_least_enough_cells
abbrev hk : Hook := Rx.hookX 4 mdl
def ob (s : SharedT) : Bool × He.AlD := Rx.obsX 4 mdl (HandSHeadRun.getT s)
theorem ob_eq (s : SharedT) : ob s = hk.obs s.abs := Rx.obsX_eq (HandSHeadRun.getT_eq s)
def loose : List PySem.Str := ["asked", "twins", "is_enough", "all_cells", "enough_sets", "_law_pen", "_law_fresh", "_law_draw", "_law_sizes", "_law_step", "_law_deeds", "_law_nodes", "_law_house", "_law_some_house", "_law_contents", "_law_answer", "_law_set", "_law_all_cells", "_law_twin_pairs"]
theorem run (w : World) : HandSHeadRun.RunEq R (view R.prog [22]) hk ob 1200 loose w := by
  intro os
  kernel_rfl
end Lw
open PySem PySem.W PySem.Calls PyProof.Rows
theorem PySem.Challenge.cw_askanew_k52_least_enough_cells_holds : PySem.Challenge.rw_askanew_k52_least_enough_cells.Holds := by
  w_on; o_law
  refine HandSHeadRun.head_any (r := Lw.R) (q := view Lw.R.prog [22]) (H := Lw.hk) (ob := Lw.ob) (M := 1200) (loose := Lw.loose) (d := HandSHeadRun.topDef Lw.R.prog 22) (kwd := []) Lw.ob_eq
    (by kernel_rfl) (fun s => by kernel_rfl) Lw.run (by kernel_rfl) (by kernel_rfl) (by kernel_rfl) (by rfl) (by first | assumption | decide +kernel) (by decide +kernel) ⟨rfl, rfl, rfl, rfl, rfl, by decide +kernel⟩ ?hw ?hc
  case hw => w_witness2
  case hc =>
    exact Rx.walk_all (l := PySem.Challenge.rw_askanew_k52_least_enough_cells) (n := 63) (k := 9) (wf := 30) (x := "_law_script") (M := Lw.mdl) (rl := Lw.f_law) (hn4 := 4) rfl (by decide) (by kernel_rfl) ⟨rfl, by decide, by decide⟩ (by kernel_rfl)
      (by simp [Lw.mdl, Lw.rows]) rfl rfl rfl Lw.bd Lw.bx Lw.chk (by decide +kernel) fun ns h => Lw.pure_ ns h

