import PyProof.Rows.All
import Wide.All
import OpenK.AllK
import Wide.FinOn
import HandS.ForMost
import HandS.Exc
import HandS.ExcOwn
import HandS.WordsExc
import HandS.Evl
import HandS.Lambda
import HandS.HotCalls
import KE.KDictKeyed
import KE.KDictDisplayH
import PyProof.NeKinds
import HandS.TupAny
import HandS.TupMul
import HandS.Style
import PyProof.StrOps2
import HandS.IsInst
import HandS.SetFor
import HandS.Replace
import PyProof.Rows.SortShellAny
import HandS.Strs
import HandS.Comp
import HandS.Iter
import KE.GoesEnum
import HandS.TryOnly
import HandS.Head0
import HandS.Head1
import HandS.Head2
import HandS.HeadEnd
import HandS.HeadHook1
import HandS.HeadHook2
import HandS.Defaults
import HandS.ExcIs
import HandS.HeadHook4
import HandS.ExcInitHot
import HandS.HeadWalk
import HandS.Set
import PyProof.CollectStr
import KE.KDictList
import HandS.Dict
import HandS.More
import HandS.SortInts
import HandS.SortOrd
import KE.KDictWalk
import KE.KDictExact
import KE.KPairComp
import PyProof.Rows.StrRev
import HandS.Text
import KE.KIntText
import KE.IntTextLaws
import HandS.TupSets
import KE.KSortTupG
import KE.DataMinMax
import KE.KDictZip
import KE.GoesZip
import KE.GoesMore
import KE.KDictPairs
import HandS.NoneIn
import KE.DataFind
import PySem.Challenge.RW_writtenback_k60_whole_shares
set_option Elab.async false
set_option linter.all false
set_option maxRecDepth 100000
set_option maxHeartbeats 8000000
namespace WB
inductive D where
  | non | bl (b : Bool) | int (i : Int) | str (s : List Nat) | tup (ds : List D) | lst (ds : List D) | dic (t : Bool) (ks : List (D × D))
  | fn (k : Nat) | exc (k : Nat) | obj (n : Nat) | scr (ds : List D) | hot (a k : Nat)
inductive Ob where
  | box (d : D)
  | ins (c : Nat) (fs : List (Nat × D))
  | nd (l : Bool) (kd : List (D × D)) | lk (d : D)
abbrev Objs := List Ob
inductive Res (α : Type) where
  | ok (a : α) (o : Objs) | exn (k : Nat) (o : Objs) | stuck
def M (α : Type) := Objs → Res α
namespace M
def fail {α : Type} : M α := fun _ => .stuck
def throw {α : Type} (k : Nat) : M α := fun o => .exn k o
def bnd {α β : Type} (x : M α) (f : α → M β) : M β := fun o => match x o with
  | .ok a o' => f a o'
  | .exn k o' => .exn k o'
  | .stuck => .stuck
end M
instance : Monad M where
  pure a := fun o => .ok a o
  bind := M.bnd
theorem pure_bnd {α β : Type} (a : α) (f : α → M β) : (pure a >>= f) = f a := rfl
theorem bnd_pure {α : Type} (x : M α) : (x >>= pure) = x := by
  funext o
  show M.bnd x pure o = x o
  unfold M.bnd
  cases x o <;> rfl
theorem bnd_assoc {α β γ : Type} (x : M α) (f : α → M β) (g : β → M γ) : ((x >>= f) >>= g) = (x >>= fun a => f a >>= g) := by
  funext o
  show M.bnd (M.bnd x f) g o = M.bnd x (fun a => M.bnd (f a) g) o
  unfold M.bnd
  cases x o <;> rfl

abbrev Slots := List (Option D)
def sz : Nat := 16777216

def D.asB : D → M Bool
  | .bl b => pure b
  | _ => M.fail
def b2n (b : Bool) : Int := if b then 1 else 0
mutual
def eqD : Nat → D → D → Option Bool
  | _, .non, .non => some true
  | _, .non, .bl _ => some false | _, .non, .int _ => some false | _, .non, .str _ => some false
  | _ + 1, .non, .tup _ => some false | _ + 1, .non, .lst _ => some false
  | _, .bl _, .non => some false
  | _, .bl a, .bl b => some (a == b)
  | _, .bl a, .int j => some (b2n a == j)
  | _, .bl _, .str _ => some false | _ + 1, .bl _, .tup _ => some false | _ + 1, .bl _, .lst _ => some false
  | _, .int _, .non => some false
  | _, .int i, .bl b => some (i == b2n b)
  | _, .int i, .int j => some (i == j)
  | _, .int _, .str _ => some false | _ + 1, .int _, .tup _ => some false | _ + 1, .int _, .lst _ => some false
  | _, .str _, .non => some false | _, .str _, .bl _ => some false | _, .str _, .int _ => some false
  | _, .str a, .str b => some (a == b)
  | _ + 1, .str _, .tup _ => some false | _ + 1, .str _, .lst _ => some false
  | _ + 1, .tup _, .non => some false | _ + 1, .tup _, .bl _ => some false | _ + 1, .tup _, .int _ => some false | _ + 1, .tup _, .str _ => some false
  | n + 1, .tup a, .tup b => eqL n a b
  | _ + 1, .tup _, .lst _ => some false
  | _ + 1, .lst _, .non => some false | _ + 1, .lst _, .bl _ => some false | _ + 1, .lst _, .int _ => some false | _ + 1, .lst _, .str _ => some false
  | _ + 1, .lst _, .tup _ => some false
  | n + 1, .lst a, .lst b => eqL n a b
  | n + 1, .scr a, .lst b => eqL n a b
  | _, _, _ => none
def eqL : Nat → List D → List D → Option Bool
  | _, [], [] => some true
  | n, x :: xs, y :: ys => match eqD n x y, eqL n xs ys with
    | some a, some b => some (a && b)
    | _, _ => none
  | _, [], _ :: _ => some false
  | _, _ :: _, [] => some false
end
def dp : Nat := 40
def eqM (x y : D) : M Bool := match eqD dp x y with
  | some b => pure b
  | none => M.fail
def inL (x : D) : List D → Option Bool
  | [] => some false
  | y :: ys => match eqD dp y x, inL x ys with
    | some a, some b => some (a || b)
    | _, _ => none
mutual
def keyEq : D → D → Bool
  | .non, .non => true
  | .int i, .int j => i == j
  | .str a, .str b => a == b
  | .tup a, .tup b => keyEqL a b
  | _, _ => false
def keyEqL : List D → List D → Bool
  | [], [] => true
  | x :: xs, y :: ys => keyEq x y && keyEqL xs ys
  | _, _ => false
end
def getD (k : D) : List (D × D) → Option D
  | [] => none
  | (a, v) :: r => if keyEq a k then some v else getD k r
def strKey : D → Bool
  | .str _ => true
  | .int _ => true
  | _ => false
def keyOk : Bool → D → Bool
  | false, d => strKey d
  | true, .tup ds => ds.all strKey
  | true, _ => false
mutual
def nkD : Nat → D → Bool
  | _, .non => true
  | _, .int _ => true
  | _, .str _ => true
  | n + 1, .tup ds => nkL n ds
  | _, _ => false
def nkL : Nat → List D → Bool
  | _, [] => true
  | n, d :: ds => nkD n d && nkL n ds
end
def nkB : D → Bool
  | .tup ds => nkL 6 ds
  | _ => false
def inM (x y : D) : M Bool := match y with
  | .str s => (match x with | .str [c] => pure (s.contains c) | _ => M.fail)
  | .lst ys => (match inL x ys with | some b => pure b | none => M.fail)
  | .tup ys => (match inL x ys with | some b => pure b | none => M.fail)
  | _ => M.fail
def ltT : List Nat → List Nat → Bool
  | [], [] => false
  | [], _ :: _ => true
  | _ :: _, [] => false
  | a :: r, b :: s => if a = b then ltT r s else decide (a < b)
inductive B2 where
  | add | sub | mul | fdiv | mod | pow | eq | ne | lt | le | gt | ge | is_ | isnot | in_ | notin
def inR (i : Int) : Bool := decide (-18446744073709551616 < i) && decide (i < 18446744073709551616)
def rep {α : Type} : Nat → List α → List α
  | 0, _ => []
  | n + 1, l => l ++ rep n l
def strsOf : List D → Option (List (List Nat))
  | [] => some []
  | .str s :: r => (strsOf r).map (s :: ·)
  | _ :: _ => none
def intsOf : List D → Option (List Int)
  | [] => some []
  | .int s :: r => (intsOf r).map (s :: ·)
  | _ :: _ => none
def blsOf : List D → Option (List Bool)
  | [] => some []
  | .bl s :: r => (blsOf r).map (s :: ·)
  | _ :: _ => none
def lexI : List Int → List Int → Bool
  | [], [] => false
  | [], _ :: _ => true
  | _ :: _, [] => false
  | x :: xs, y :: ys => if x = y then lexI xs ys else decide (x < y)
def ltTM (a b : List D) : M D := match intsOf a, intsOf b with
  | some x, some y => pure (.bl (lexI x y))
  | _, _ => M.fail
def opM (o : B2) (x y : D) : M D := match o, x, y with
  | .add, .int i, .int j => pure (.int (i + j))
  | .add, .str a, .str b => if a.length + b.length ≤ sz then pure (.str (a ++ b)) else M.fail
  | .add, .lst a, .lst b => if a.length + b.length ≤ sz then pure (.lst (a ++ b)) else M.fail
  | .add, .tup a, .tup b => if a.length + b.length ≤ sz then pure (.tup (a ++ b)) else M.fail
  | .sub, .int i, .int j => pure (.int (i - j))
  | .mul, .int i, .int j => if inR i || inR j then pure (.int (i * j)) else M.fail
  | .mul, .str a, .int k => if 0 ≤ k ∧ k ≤ 1000 ∧ a.length ≤ 1000 then pure (.str (rep k.toNat a)) else M.fail
  | .mul, .lst a, .int k => if 0 ≤ k ∧ k ≤ 1000 ∧ a.length ≤ 1000 then pure (.lst (rep k.toNat a)) else M.fail
  | .mul, .tup a, .int k => if 2 ≤ k ∧ k ≤ 1000 ∧ a.length ≤ 1000 ∧ a ≠ [] then pure (.tup (rep k.toNat a)) else M.fail
  | .fdiv, .int i, .int j => if 0 < j ∧ j < 1073741824 then pure (.int (i / j)) else M.fail
  | .mod, .int i, .int j => if 0 < j then pure (.int (i % j)) else M.fail
  | .pow, .int i, .int j => if 0 ≤ j ∧ j ≤ 1000 ∧ 0 ≤ i ∧ i ≤ 1000 then pure (.int (i ^ j.toNat)) else M.fail
  | .eq, x, y => eqM x y >>= fun b => pure (.bl b)
  | .ne, x, y => eqM x y >>= fun b => pure (.bl (!b))
  | .lt, .int i, .int j => pure (.bl (decide (i < j)))
  | .le, .int i, .int j => pure (.bl (decide (i ≤ j)))
  | .gt, .int i, .int j => pure (.bl (decide (j < i)))
  | .ge, .int i, .int j => pure (.bl (decide (j ≤ i)))
  | .lt, .str a, .str b => pure (.bl (ltT a b))
  | .lt, .tup a, .tup b => ltTM a b
  | .le, .str a, .str b => pure (.bl (!ltT b a))
  | .gt, .str a, .str b => pure (.bl (ltT b a))
  | .ge, .str a, .str b => pure (.bl (!ltT a b))
  | .is_, .non, .non => pure (.bl true)
  | .is_, _, .non => pure (.bl false)
  | .is_, .bl a, .bl b => pure (.bl (a == b))
  | .isnot, .non, .non => pure (.bl false)
  | .isnot, _, .non => pure (.bl true)
  | .isnot, .bl a, .bl b => pure (.bl (!(a == b)))
  | .in_, x, y => inM x y >>= fun b => pure (.bl b)
  | .notin, x, y => inM x y >>= fun b => pure (.bl (!b))
  | _, _, _ => M.fail
def ixD (n : Nat) (i : Int) : Option Nat := if 0 ≤ i then (if i < n then some i.toNat else none) else if -(n : Int) ≤ i then some (i + n).toNat else none
def atD {α : Type} (xs : List α) (i : Int) : Option α := (ixD xs.length i).bind fun j => xs[j]?
def putD (k v : D) (l : List (D × D)) : List (D × D) := if (l.any fun p => keyEq p.1 k) = true then l.map (fun p => if keyEq p.1 k = true then (p.1, v) else p) else l ++ [(k, v)]
def dgtM (x k : D) : M D := match x with
  | .dic t ks => if keyOk t k then (match getD k ks with | some d => pure d | none => M.fail) else M.fail
  | _ => M.fail
def dgmM (x k v : D) : M D := match x with
  | .dic t ks => if keyOk t k then pure ((getD k ks).getD v) else M.fail
  | _ => M.fail
def dgNM (x k v : D) : M D := match x, k with
  | .dic false _, .non => pure v
  | .dic false ks, k => dgmM (.dic false ks) k v
  | _, _ => M.fail
def dinM (b : Bool) (k x : D) : M D := match x with
  | .dic t ks => if keyOk t k then pure (.bl ((getD k ks).isSome == b)) else M.fail
  | _ => M.fail
def idxM (x i : D) : M D := match x, i with
  | .lst xs, .int k => (match atD xs k with | some d => pure d | none => M.fail)
  | .scr xs, .int k => (match atD xs k with | some d => pure d | none => M.fail)
  | .tup xs, .int k => (match atD xs k with | some d => pure d | none => M.fail)
  | .str s, .int k => if s.length ≤ sz then (match atD s k with | some c => pure (.str [c]) | none => M.fail) else M.fail
  | _, _ => M.fail
def sIx (n d : Nat) : Option Int → Nat
  | none => d
  | some v => if v < 0 then (v + n).toNat else min v.toNat n
def cut {α : Type} (xs : List α) (lo hi : Option Int) : List α := (xs.drop (sIx xs.length 0 lo)).take (sIx xs.length xs.length hi - sIx xs.length 0 lo)
def cutM (x : D) (lo hi : Option Int) : M D := match x with
  | .lst xs => pure (.lst (cut xs lo hi))
  | .tup xs => pure (.tup (cut xs lo hi))
  | .str s => if s.length ≤ sz then pure (.str (cut s lo hi)) else M.fail
  | _ => M.fail
def revM (x : D) : M D := match x with
  | .str s => if s.length ≤ sz then pure (.str s.reverse) else M.fail
  | _ => M.fail
def rv2M (x : D) : M D := match x with
  | .lst xs => pure (.lst xs.dropLast.reverse)
  | _ => M.fail
def revLM (x : D) : M D := match x with
  | .lst xs => pure (.lst xs.reverse)
  | _ => M.fail
def revTM (x : D) : M D := match x with
  | .tup xs => pure (.tup xs.reverse)
  | _ => M.fail
def decT (n : Nat) : List Nat := (Nat.toDigits 10 n).map Char.toNat
def figB (c : Nat) : Bool := decide (48 ≤ c) && decide (c ≤ 57)
def valT : Nat → List Nat → Nat
  | a, [] => a
  | a, c :: r => valT (a * 10 + (c - 48)) r
def ltF : D → D → Bool
  | .int i, .int j => decide (i < j)
  | .str a, .str b => ltT a b
  | _, _ => false
def ltTup : List D → List D → Bool
  | [], [] => false
  | [], _ :: _ => true
  | _ :: _, [] => false
  | a :: r, b :: s => if keyEq a b then ltTup r s else ltF a b
def ltD : D → D → Bool
  | .tup a, .tup b => ltTup a b
  | _, _ => false
def insD (a : D) : List D → List D
  | [] => [a]
  | b :: r => if ltD b a then b :: insD a r else a :: b :: r
def sortD : List D → List D
  | [] => []
  | a :: r => insD a (sortD r)
def insDU (a : D) : List D → List D
  | [] => [a]
  | b :: r => if keyEq a b then b :: r else if ltD b a then b :: insDU a r else a :: b :: r
def sortDU : List D → List D
  | [] => []
  | a :: r => insDU a (sortDU r)
def kindF : D → Option Bool
  | .int _ => some true
  | .str _ => some false
  | _ => none
def shapeL : List D → Option (List Bool)
  | [] => some []
  | a :: r => match kindF a, shapeL r with
    | some k, some l => some (k :: l)
    | _, _ => none
def shapeD : D → Option (List Bool)
  | .tup l => shapeL l
  | _ => none
def tupsOk : List D → Bool
  | [] => true
  | a :: r => (match shapeD a with | some (_ :: _) => true | _ => false) && r.all fun b => decide (shapeD b = shapeD a)
def insT (a : List Nat) : List (List Nat) → List (List Nat)
  | [] => [a]
  | b :: r => if ltT b a then b :: insT a r else a :: b :: r
def sortT : List (List Nat) → List (List Nat)
  | [] => []
  | a :: r => insT a (sortT r)
def insU (a : List Nat) : List (List Nat) → List (List Nat)
  | [] => [a]
  | b :: r => if a = b then b :: r else if ltT b a then b :: insU a r else a :: b :: r
def sortU : List (List Nat) → List (List Nat)
  | [] => []
  | a :: r => insU a (sortU r)
def insI (a : Int) : List Int → List Int
  | [] => [a]
  | b :: r => if b < a then b :: insI a r else a :: b :: r
def sortI : List Int → List Int
  | [] => []
  | a :: r => insI a (sortI r)
def signs (s : List Nat) : List D := s.map fun c => D.str [c]
def itemsM (x : D) : M (List D) := match x with
  | .lst xs => pure xs
  | .tup xs => pure xs
  | .str s => pure (signs s)
  | _ => M.fail
def dkeysM (x : D) : M (List D) := match x with
  | .dic _ ks => pure (ks.map (·.1))
  | _ => M.fail
def ditemsM (x : D) : M (List D) := match x with
  | .dic false ks => pure (ks.map fun p => .tup [p.1, p.2])
  | _ => M.fail
def maxI (a : Int) : List Int → Int
  | [] => a
  | b :: r => maxI (if b > a then b else a) r
def minI (a : Int) : List Int → Int
  | [] => a
  | b :: r => minI (if b < a then b else a) r
def preT (S l : List Nat) : Bool := l.take S.length == S
def splT (S : List Nat) : Nat → List Nat → List Nat → List (List Nat)
  | _, acc, [] => [acc]
  | 0, acc, c :: r => if preT S (c :: r) then acc :: splT S (S.length - 1) [] r else splT S 0 (acc ++ [c]) r
  | k + 1, acc, _ :: r => splT S k acc r
def parT (S : List Nat) : List Nat → List Nat → Option (List Nat × List Nat)
  | _, [] => none
  | acc, c :: r => if preT S (c :: r) then some (acc, (c :: r).drop S.length) else parT S (acc ++ [c]) r
def joinT (S : List Nat) : List (List Nat) → List Nat
  | [] => []
  | [a] => a
  | a :: b :: r => a ++ S ++ joinT S (b :: r)
def findT (c : Nat) : List Nat → Option Nat
  | [] => none
  | a :: r => if a = c then some 0 else (findT c r).map (· + 1)
def findI {α : Type} [DecidableEq α] (c : α) : List α → Option Nat
  | [] => none
  | a :: r => if a = c then some 0 else (findI c r).map (· + 1)
inductive Ty where
  | str | tuple | int | bool | list | cls (k : Nat) (ks : List Nat) | valueError (ks : List Nat) | clsH (a k j : Nat) | vErrH (a k : Nat)
  deriving DecidableEq
def isD (x : D) (t : Ty) : M Bool := match x, t with
  | .exc k, .cls j ks => if ks.contains k && ks.contains j then pure (decide (k = j)) else M.fail
  | .exc k, .valueError ks => if ks.contains k then pure true else M.fail
  | .hot a k, .clsH a' k' j => if a = a' ∧ k = k' then pure (decide (k = j)) else M.fail
  | .hot a k, .vErrH a' k' => if a = a' ∧ k = k' then pure true else M.fail
  | .hot _ _, _ => M.fail
  | _, .clsH _ _ _ => M.fail
  | _, .vErrH _ _ => M.fail
  | .exc _, _ => M.fail
  | .fn _, _ => M.fail
  | .obj _, _ => M.fail
  | .scr _, _ => M.fail
  | _, .cls _ _ => M.fail
  | _, .valueError _ => M.fail
  | .str _, t => pure (decide (t = .str))
  | .tup _, t => pure (decide (t = .tuple))
  | .int _, t => pure (decide (t = .int))
  | .bl _, t => pure (decide (t = .bool) || decide (t = .int))
  | .lst _, t => pure (decide (t = .list))
  | .non, _ => pure false
  | .dic _ _, _ => M.fail
inductive BF where
  | sortedTup | min2S | max2S | sortedR | intS | sortedSetS | sortedSetI | lenSetI | sortedSetT | sortedT | minT | sortedS | listS | len | all | any | sum | sorted | sortedSet | lenSet | list | tuple | int1 | str1 | max1 | min1 | max2 | min2 | dictPairs | dictZip | dict1 | sortedD | listD
def lenM (x : D) : M D := match x with
  | .lst xs => pure (.int xs.length)
  | .scr xs => pure (.int xs.length)
  | .tup xs => pure (.int xs.length)
  | .str s => if s.length ≤ sz then pure (.int s.length) else M.fail
  | _ => M.fail
def sortM (x : D) : M D := match x with
  | .lst xs => (match strsOf xs with
    | some l => if l.length < 64 then pure (.lst ((sortT l).map D.str)) else M.fail
    | none => M.fail)
  | _ => M.fail
def sortSetM (x : D) : M D := match x with
  | .lst xs => (match strsOf xs with
    | some l => if l.length < 1000 then pure (.lst ((sortU l).map D.str)) else M.fail
    | none => M.fail)
  | _ => M.fail
def sortSetSM (x : D) : M D := match x with
  | .str s => if s.length < 64 then pure (.lst ((sortU (s.map fun c => [c])).map D.str)) else M.fail
  | _ => M.fail
def sortSM (x : D) : M D := match x with
  | .str s => if s.length ≤ 1000 then pure (.lst ((sortT (s.map fun c => [c])).map D.str)) else M.fail
  | _ => M.fail
def listSM (x : D) : M D := match x with
  | .str s => if s.length ≤ 1000 then pure (.lst ((s.map fun c => [c]).map D.str)) else M.fail
  | _ => M.fail
def listM (x : D) : M D := match x with
  | .lst xs => pure (.lst xs)
  | .tup xs => pure (.lst xs)
  | _ => M.fail
def tupleM (x : D) : M D := match x with
  | .lst xs => pure (.tup xs)
  | .tup xs => pure (.tup xs)
  | _ => M.fail
def pairsOf : List D → Option (List (D × D))
  | [] => some []
  | .tup [k, v] :: r => (pairsOf r).map ((k, v) :: ·)
  | _ :: _ => none
def fillD : List (D × D) → List (D × D) → List (D × D)
  | acc, [] => acc
  | acc, (k, v) :: r => fillD (putD k v acc) r
def allM (x : D) : M D := match x with
  | .lst xs => (match blsOf xs with | some l => pure (.bl (l.all id)) | none => M.fail)
  | _ => M.fail
def anyM (x : D) : M D := match x with
  | .lst xs => (match blsOf xs with | some l => pure (.bl (l.any id)) | none => M.fail)
  | _ => M.fail
def sumM (x : D) : M D := match x with
  | .lst xs => (match intsOf xs with | some l => pure (.int l.sum) | none => M.fail)
  | _ => M.fail
def intOfM (x : D) : M D := match x with
  | .int i => pure (.int i)
  | .bl b => pure (.int (b2n b))
  | _ => M.fail
def maxM (x : D) : M D := match x with
  | .lst xs => (match intsOf xs with | some (a :: l) => pure (.int (maxI a l)) | _ => M.fail)
  | _ => M.fail
def minM (x : D) : M D := match x with
  | .lst xs => (match intsOf xs with | some (a :: l) => pure (.int (minI a l)) | _ => M.fail)
  | _ => M.fail
def dictM (x : D) : M D := match x with
  | .lst xs => (match pairsOf xs with
    | some l => if l.all (fun p => strKey p.1) && decide (l.length ≤ 1000) then pure (.dic false (fillD [] l)) else M.fail
    | none => M.fail)
  | _ => M.fail
def dictCM (x : D) : M D := match x with
  | .dic false ks => pure (.dic false ks)
  | _ => M.fail
def sortDM (x : D) : M D := match x with
  | .dic false ks => (match intsOf (ks.map (·.1)) with
    | some l => if l.length < 64 then pure (.lst ((sortI l).map D.int)) else M.fail
    | none => M.fail)
  | _ => M.fail
def listDM (x : D) : M D := match x with
  | .dic false ks => if ks.length ≤ 1000 then pure (.lst (ks.map (·.1))) else M.fail
  | _ => M.fail
def strM (x : D) : M D := match x with
  | .int i => if 0 ≤ i ∧ i < 1000000000000 then pure (.str (decT i.toNat)) else M.fail
  | _ => M.fail
def intTM (x : D) : M D := match x with
  | .str s => if s ≠ [] ∧ s.length ≤ 100 ∧ s.all figB = true then pure (.int (valT 0 s : Nat)) else M.fail
  | _ => M.fail
def insIU (a : Int) : List Int → List Int
  | [] => [a]
  | b :: r => if a = b then b :: r else if b < a then b :: insIU a r else a :: b :: r
def sortIU : List Int → List Int
  | [] => []
  | a :: r => insIU a (sortIU r)
def sortSetIM (x : D) : M D := match x with
  | .lst xs => (match intsOf xs with
    | some l => if l.length < 64 then pure (.lst ((sortIU l).map D.int)) else M.fail
    | none => M.fail)
  | _ => M.fail
def lenSetIM (x : D) : M D := match x with
  | .lst xs => (match intsOf xs with
    | some l => if l.length < 64 then pure (.int ((sortIU l).length : Nat)) else M.fail
    | none => M.fail)
  | _ => M.fail
def sortSetTM (x : D) : M D := match x with
  | .lst xs => if tupsOk xs = true ∧ (sortDU xs).length < 64 then pure (.lst (sortDU xs)) else M.fail
  | _ => M.fail
def sortTM (x : D) : M D := match x with
  | .lst xs => if tupsOk xs = true ∧ xs.length < 64 then pure (.lst (sortD xs)) else M.fail
  | _ => M.fail
def minL (a : D) : List D → D
  | [] => a
  | b :: r => minL (if ltD b a then b else a) r
def minTM (x : D) : M D := match x with
  | .lst (a :: r) => if tupsOk (a :: r) = true then pure (minL a r) else M.fail
  | _ => M.fail
def sortTupM (x : D) : M D := match x with
  | .tup xs => (match strsOf xs with
    | some l => if l.length < 64 then pure (.lst ((sortT l).map D.str)) else M.fail
    | none => M.fail)
  | _ => M.fail
def rowsOf : List D → Option (List (Int × List Int))
  | [] => some []
  | .tup [.int n, .lst ds] :: r => (match intsOf ds, rowsOf r with
    | some l, some q => some ((n, l) :: q)
    | _, _ => none)
  | _ :: _ => none
def ltRow (a b : Int × List Int) : Bool := if a.1 = b.1 then lexI a.2 b.2 else decide (a.1 < b.1)
def insRow (a : Int × List Int) : List (Int × List Int) → List (Int × List Int)
  | [] => [a]
  | b :: r => if ltRow b a then b :: insRow a r else a :: b :: r
def sortRow : List (Int × List Int) → List (Int × List Int)
  | [] => []
  | a :: r => insRow a (sortRow r)
def rowRD (a : Int × List Int) : D := .tup [.int a.1, .lst (a.2.map D.int)]
def sortRM (x : D) : M D := match x with
  | .lst xs => (match rowsOf xs with
    | some l => if l.length ≤ 1000 then pure (.lst ((sortRow l).map rowRD)) else M.fail
    | none => M.fail)
  | _ => M.fail
def blt1M (f : BF) (x : D) : M D := match f with
  | .sortedS => sortSM x | .listS => listSM x
  | .len => lenM x | .all => allM x | .any => anyM x | .sum => sumM x | .sorted => sortM x | .sortedSet => sortSetM x | .list => listM x | .tuple => tupleM x
  | .str1 => strM x | .intS => intTM x | .sortedSetS => sortSetSM x | .sortedSetI => sortSetIM x | .lenSetI => lenSetIM x | .sortedSetT => sortSetTM x | .sortedT => sortTM x | .minT => minTM x | .sortedTup => sortTupM x | .sortedR => sortRM x
  | .int1 => intOfM x | .max1 => maxM x | .min1 => minM x | .dictPairs => dictM x | .dict1 => dictCM x | .sortedD => sortDM x | .listD => listDM x
  | _ => M.fail
def max2M (x y : D) : M D := match x, y with
  | .int i, .int j => pure (.int (if j > i then j else i))
  | _, _ => M.fail
def min2M (x y : D) : M D := match x, y with
  | .int i, .int j => pure (.int (if j < i then j else i))
  | _, _ => M.fail
def max2SM (x y : D) : M D := match x, y with
  | .str a, .str b => pure (.str (if ltT a b then b else a))
  | _, _ => M.fail
def min2SM (x y : D) : M D := match x, y with
  | .str a, .str b => pure (.str (if ltT b a then b else a))
  | _, _ => M.fail
def zipM (x y : D) : M D := match x, y with
  | .str a, .str b => if a.length = b.length ∧ a.length ≤ 1000 then pure (.dic false (fillD [] ((signs a).zip (signs b)))) else M.fail
  | _, _ => M.fail
def blt2M (f : BF) (x y : D) : M D := match f with
  | .max2 => max2M x y | .min2 => min2M x y | .dictZip => zipM x y | .max2S => max2SM x y | .min2S => min2SM x y
  | _ => M.fail
def bltM (f : BF) (xs : List D) : M D := match xs with
  | [x] => blt1M f x
  | [x, y] => blt2M f x y
  | _ => M.fail
inductive MF where
  | join | split | partition | index | count | get | countT
def joinM (x y : D) : M D := match x, y with
  | .str s, .lst l => (match strsOf l with | some l => if (l.map List.length).sum + l.length * s.length ≤ sz then pure (.str (joinT s l)) else M.fail | none => M.fail)
  | _, _ => M.fail
def splitM (x y : D) : M D := match x, y with
  | .str s, .str [c] => if s.length + 2 ≤ sz ∧ c < 128 then pure (.lst ((splT [c] 0 [] s).map D.str)) else M.fail
  | _, _ => M.fail
def partM (x y : D) : M D := match x, y with
  | .str s, .str (c :: r) => if s.length ≤ sz then (match parT (c :: r) [] s with
    | some (a, b) => pure (.tup [.str a, .str (c :: r), .str b])
    | none => pure (.tup [.str s, .str [], .str []])) else M.fail
  | _, _ => M.fail
def indexM (x y : D) : M D := match x, y with
  | .str s, .str [c] => (match findT c s with | some k => pure (.int k) | none => M.fail)
  | .lst l, .bl c => (match blsOf l with | some l => (match findI c l with | some k => pure (.int k) | none => M.fail) | none => M.fail)
  | .lst l, .int c => (match intsOf l with | some l => (match findI c l with | some k => pure (.int k) | none => M.fail) | none => M.fail)
  | _, _ => M.fail
def countM (x y : D) : M D := match x, y with
  | .lst l, .bl c => (match blsOf l with | some l => pure (.int (l.count c : Nat)) | none => M.fail)
  | _, _ => M.fail
def tupsI : List D → Option (List (List Int))
  | [] => some []
  | .tup ds :: r => (match intsOf ds with | some l => (tupsI r).map (l :: ·) | none => none)
  | _ :: _ => none
def countTM (x y : D) : M D := match x, y with
  | .lst l, .tup ds => (match tupsI l, intsOf ds with | some ls, some k => pure (.int (ls.count k : Nat)) | _, _ => M.fail)
  | .lst l, .int k => (match intsOf l with | some ls => pure (.int (ls.count k : Nat)) | none => M.fail)
  | _, _ => M.fail
def mthM (f : MF) (x : D) (xs : List D) : M D := match xs with
  | [y] => (match f with | .join => joinM x y | .split => splitM x y | .partition => partM x y | .index => indexM x y | .count => countM x y | .get => M.fail | .countT => countTM x y)
  | _ => M.fail

def putA (k : Nat) (d : D) : List (Nat × D) → List (Nat × D)
  | [] => [(k, d)]
  | (j, e) :: r => if j = k then (j, d) :: r else (j, e) :: putA k d r
def fldM (c k : Nat) (x : D) : M D := match x with
  | .obj n => fun o => (match o[n]? with
    | some (.ins c' fs) => if c' = c then (match fs.lookup k with | some d => .ok d o | none => .stuck) else .stuck
    | _ => .stuck)
  | _ => M.fail
def fsetM (c k : Nat) (x d : D) : M D := match x with
  | .obj n => fun o => (match o[n]? with
    | some (.ins c' fs) => if c' = c ∧ fs.length < 100 then .ok .non (o.set n (.ins c (putA k d fs))) else .stuck
    | _ => .stuck)
  | _ => M.fail
def isO (c m : Nat) (x : D) : M D := match x with
  | .obj n => fun o => (match o[n]? with
    | some (.ins c' fs) => if c' = c ∧ fs.lookup m = none then .ok .non o else .stuck
    | _ => .stuck)
  | _ => M.fail
def newM (c : Nat) : M D := fun o => .ok (.obj o.length) (o ++ [.ins c []])
def derM (x : D) : M D := match x with
  | .obj n => fun o => (match o[n]? with
    | some (.box d) => .ok d o
    | _ => .stuck)
  | x => pure x
def dersM : List D → M (List D)
  | [] => pure []
  | x :: xs => derM x >>= fun y => dersM xs >>= fun ys => pure (y :: ys)
def bupM (f : D → M (D × D)) (x : D) : M D := match x with
  | .obj n => fun o => (match o[n]? with
    | some (.box d) => (match f d o with
      | .ok p o' => .ok p.1 (o'.set n (.box p.2))
      | .exn k o' => .exn k o'
      | .stuck => .stuck)
    | _ => .stuck)
  | _ => M.fail
def isL : D → Bool
  | .lst _ => true
  | .dic _ _ => true
  | _ => false
def isLs : D → Bool
  | .lst _ => true
  | _ => false
def isDs : D → Bool
  | .dic _ _ => true
  | _ => false
def boxM (d : D) : M D := fun o => if isL d then .ok (.obj o.length) (o ++ [.box d]) else .stuck
def chkM (b : Bool) (x : D) : M D := match x with
  | .obj n => fun o => (match o[n]? with
    | some (.box d) => if (if b then isDs d else isLs d) then .ok .non o else .stuck
    | _ => .stuck)
  | _ => M.fail
def newN (kd : List (D × D)) : M D := fun o => .ok (.obj o.length) (o ++ [.nd false kd])
def nd1M (x k v : D) : M D := match x with
  | .obj n => fun o => (match o[n]? with
    | some (.nd false []) => if nkB k then .ok (.obj n) (o.set n (.nd false [(k, v)])) else .stuck
    | _ => .stuck)
  | _ => M.fail
def ndpM (x : D) : M D := match x with
  | .lst xs => (match pairsOf xs with
    | some l => if l.all (fun p => nkB p.1) && decide (l.length ≤ 1000) then newN (fillD [] l) else M.fail
    | none => M.fail)
  | _ => M.fail
def chkN (x : D) : M D := match x with
  | .obj n => fun o => (match o[n]? with
    | some (.nd _ _) => .ok .non o
    | _ => .stuck)
  | _ => M.fail
def ninM (b : Bool) (k x : D) : M D := match x with
  | .obj n => fun o => (match o[n]? with
    | some (.nd _ kd) => if nkB k then .ok (.bl ((getD k kd).isSome == b)) o else .stuck
    | _ => .stuck)
  | _ => M.fail
def ngtM (x k : D) : M D := match x with
  | .obj n => fun o => (match o[n]? with
    | some (.nd _ kd) => if nkB k then (match getD k kd with | some d => .ok d o | none => .stuck) else .stuck
    | _ => .stuck)
  | _ => M.fail
def ngmM (x k v : D) : M D := match x with
  | .obj n => fun o => (match o[n]? with
    | some (.nd _ kd) => if nkB k then .ok ((getD k kd).getD v) o else .stuck
    | _ => .stuck)
  | _ => M.fail
def nsdM (x k v : D) : M D := match x with
  | .obj n => fun o => (match o[n]? with
    | some (.nd false kd) => if nkB k && decide (kd.length < sz) then (match getD k kd with | some d => .ok d o | none => .ok v (o.set n (.nd false (putD k v kd)))) else .stuck
    | _ => .stuck)
  | _ => M.fail
def nputM (x k v : D) : M D := match x with
  | .obj n => fun o => (match o[n]? with
    | some (.nd false kd) => if nkB k && decide (kd.length < sz) then .ok .non (o.set n (.nd false (putD k v kd))) else .stuck
    | _ => .stuck)
  | _ => M.fail
def pairsD (kd : List (D × D)) : List D := kd.map fun p => .tup [p.1, p.2]
def lockM (x : D) : M (List D) := match x with
  | .obj n => fun o => (match o[n]? with
    | some (.nd _ kd) => .ok (pairsD kd) (o.set n (.nd true kd))
    | some (.box (.dic false kd)) => .ok (pairsD kd) (o.set n (.lk (.dic false kd)))
    | some (.lk (.dic false kd)) => .ok (pairsD kd) o
    | _ => .stuck)
  | _ => M.fail
def mapMs (f : D → M D) : List D → M (List D)
  | [] => pure []
  | x :: xs => f x >>= fun y => mapMs f xs >>= fun ys => pure (y :: ys)
def derD : Nat → D → M D
  | 0, x => pure x
  | n + 1, .obj k => fun o => (match o[k]? with
    | some (.box (.lst xs)) => derD n (.lst xs) o
    | _ => .stuck)
  | n + 1, .lst xs => mapMs (derD n) xs >>= fun ys => pure (.lst ys)
  | _ + 1, x => pure x
def dcmM (b : Bool) (x y : D) : M D := derD 3 x >>= fun x => derD 3 y >>= fun y => eqM x y >>= fun e => pure (.bl (e == b))
def flatD : D → Bool
  | .non => true
  | .bl _ => true
  | .int _ => true
  | .str _ => true
  | _ => false
def tyB : Bool → D → Bool
  | true, .str _ => true
  | false, .lst _ => true
  | _, _ => false
inductive Tg where
  | name (i : Nat) | many (is : List Nat)
inductive E where
  | slot (i : Nat) | cst (d : D)
  | bin (o : B2) (a b : E) | neg (a : E) | chain (o p : B2) (a b c : E)
  | and (a b : E) | or (a b : E) | not (a : E) | ite (c a b : E)
  | tup (es : List E) | lst (es : List E) | dct (t : Bool)
  | idx (a i : E) | dgt (a i : E) | dgm (a i v : E) | dgN (a i v : E) | din (b : Bool) (i a : E) | sl (a : E) (lo hi : Option E) | rev (a : E) | rv2 (a : E) | revL (a : E) | revT (a : E)
  | isi (a : E) (t : Ty)
  | call (k : Nat) (es : List E) | callV (fs : List Nat) (i : E) (es : List E)
  | callR (k : Nat) (es : List E)
  | blt (f : BF) (es : List E) | mth (f : MF) (s : Bool) (a : E) (es : List E)
  | comp (t : Tg) (it : E) (c : Option E) (elt : E) (own : List Nat)
  | fld (c k : Nat) (a : E) | meth (c m k : Nat) (a : E) (es : List E) | new (c k : Nat) (es : List E)
  | frz (e : E) | box (e : E) | bbin (o : B2) (a b : E) | bidx (a i : E) | bblt (f : BF) (es : List E)
  | bdgt (a i : E) | bdgm (a i v : E) | bdin (b : Bool) (i a : E) | bapp (a e : E) | bpop (at0 : Bool) (a : E)
  | ikeys (a : E) | iitems (a : E)
  | ival (a : E) | irng (es : List E) | ienum (a : E) | told (ws : List (Option (List Nat))) (c : E)
  | compB (t : Tg) (a : E) (c : Option E) (elt : E) (own : List Nat)
  | nd0 | nd1 (k v : E) | ndp (e : E) | dc1 (i j : Int) | nin (b : Bool) (i a : E) | ngt (a i : E) | ngm (a i v : E) | nsd (a i v : E) | iitemsN (a : E) | dcmp (b : Bool) (a c : E)
abbrev Fns := Nat → List D → M D
def wipeD (m : Slots) : List Nat → Slots
  | [] => m
  | v :: vs => (wipeD m vs).set v none
def bindD (t : Tg) (x : D) (m : Slots) : M Slots := match t with
  | .name i => pure (m.set i (some x))
  | .many is => match x with
    | .tup xs => if xs.length = is.length then pure ((is.zip xs).foldl (fun m p => m.set p.1 (some p.2)) m) else M.fail
    | .lst xs => if xs.length = is.length then pure ((is.zip xs).foldl (fun m p => m.set p.1 (some p.2)) m) else M.fail
    | _ => M.fail
def shut {α : Type} (x : M α) : M α := fun o => match x o with
  | .ok a o' => .ok a o'
  | _ => .stuck
def mapM' (f : D → M (Option D)) : List D → M (List D)
  | [] => pure []
  | x :: xs => f x >>= fun a => mapM' f xs >>= fun r => pure (match a with | some y => y :: r | none => r)
def mapB (f : D → M (Option D)) (n : Nat) : Nat → Nat → M (List D)
  | 0, _ => M.fail
  | k + 1, i => fun o => match o[n]? with
    | some (.box (.lst ds)) => (match ds[i]? with
      | none => .ok [] o
      | some x => (f x >>= fun a => mapB f n k (i + 1) >>= fun r => pure (match a with | some y => y :: r | none => r)) o)
    | _ => .stuck
def boxI (f : D → M (Option D)) (x : D) : M (List D) := match x with
  | .obj n => shut (mapB f n 1000 0)
  | _ => M.fail
def rngD (a : Int) (c : Int) : Nat → List D
  | 0 => []
  | n + 1 => .int a :: rngD (a + c) c n
def inB (i : Int) : Bool := decide (-1000000000 ≤ i) && decide (i ≤ 1000000000)
def rngM (xs : List D) : M (List D) := match xs with
  | [.int b] => if inB b then pure (rngD 0 1 b.toNat) else M.fail
  | [.int a, .int b] => if inB a && inB b then pure (rngD a 1 (b - a).toNat) else M.fail
  | [.int a, .int b, .int c] => if inB a && inB b && c == -1 then pure (rngD a (-1) (a - b).toNat) else M.fail
  | _ => M.fail
def enumD (k : Nat) : List D → List D
  | [] => []
  | x :: xs => .tup [.int k, x] :: enumD (k + 1) xs
def tellM (ws : List (Option (List Nat))) (x : M D) : M D := fun o => match x o with
  | .ok d o' => .ok d o'
  | .exn k o' => (match ws[k]? with
    | some (some w) => .ok (.str w) o'
    | _ => .stuck)
  | .stuck => .stuck
def appM (x y : D) : M D := match x with
  | .lst xs => if xs.length < sz then pure (.lst (xs ++ [y])) else M.fail
  | _ => M.fail
def extM (x y : D) : M D := match x, y with
  | .lst xs, .lst ys => if xs.length + ys.length ≤ sz then pure (.lst (xs ++ ys)) else M.fail
  | _, _ => M.fail
def putM (x k v : D) : M D := match x, k with
  | .dic t ks, k => if ks.length < sz && keyOk t k then pure (.dic t (putD k v ks)) else M.fail
  | _, _ => M.fail
def popM (x : D) (at0 : Bool) : M (D × D) := match x with
  | .lst xs => if at0 then (match xs with | y :: r => pure (y, .lst r) | [] => M.fail) else (match xs.getLast? with | some y => pure (y, .lst xs.dropLast) | none => M.fail)
  | _ => M.fail
def setLM (x i y : D) : M D := match x, i with
  | .lst xs, .int k => (match ixD xs.length k with | some j => pure (.lst (xs.set j y)) | none => M.fail)
  | _, _ => M.fail
def intM (d : D) : M Int := match d with
  | .int i => pure i
  | _ => M.fail
mutual
def evE (Φ : Fns) : E → Slots → M D
  | .slot i, m => match m[i]? with | some (some d) => pure d | _ => M.fail
  | .cst d, _ => pure d
  | .bin o a b, m => evE Φ a m >>= fun x => evE Φ b m >>= fun y => opM o x y
  | .neg a, m => evE Φ a m >>= fun x => match x with | .int i => pure (.int (-i)) | _ => M.fail
  | .chain o p a b c, m => evE Φ a m >>= fun x => evE Φ b m >>= fun y => opM o x y >>= fun z => z.asB >>= fun t => if t then evE Φ c m >>= fun w => opM p y w else pure (.bl false)
  | .and a b, m => evE Φ a m >>= fun x => x.asB >>= fun t => if t then evE Φ b m else pure (.bl false)
  | .or a b, m => evE Φ a m >>= fun x => x.asB >>= fun t => if t then pure (.bl true) else evE Φ b m
  | .not a, m => evE Φ a m >>= fun x => x.asB >>= fun t => pure (.bl (!t))
  | .ite c a b, m => evE Φ c m >>= fun x => x.asB >>= fun t => if t then evE Φ a m else evE Φ b m
  | .tup es, m => evA Φ es m >>= fun xs => if xs.length ≤ 1000 then pure (.tup xs) else M.fail
  | .lst es, m => evA Φ es m >>= fun xs => if xs.length ≤ 1000 then pure (.lst xs) else M.fail
  | .dct t, _ => pure (.dic t [])
  | .dgt a i, m => evE Φ a m >>= fun x => if isDs x then evE Φ i m >>= fun y => dgtM x y else M.fail
  | .dgm a i v, m => evE Φ a m >>= fun x => if isDs x then evE Φ i m >>= fun y => evE Φ v m >>= fun z => dgmM x y z else M.fail
  | .dgN a i v, m => evE Φ a m >>= fun x => if isDs x then evE Φ i m >>= fun y => evE Φ v m >>= fun z => dgNM x y z else M.fail
  | .din b i a, m => evE Φ i m >>= fun y => evE Φ a m >>= fun x => dinM b y x
  | .idx a i, m => evE Φ a m >>= fun x => evE Φ i m >>= fun y => idxM x y
  | .sl a lo hi, m => evE Φ a m >>= fun x => evO Φ lo m >>= fun l => evO Φ hi m >>= fun h => cutM x l h
  | .rev a, m => evE Φ a m >>= fun x => revM x
  | .rv2 a, m => evE Φ a m >>= fun x => rv2M x
  | .revL a, m => evE Φ a m >>= fun x => revLM x
  | .revT a, m => evE Φ a m >>= fun x => revTM x
  | .isi a t, m => evE Φ a m >>= fun x => isD x t >>= fun b => pure (.bl b)
  | .call k es, m => evA Φ es m >>= fun xs => Φ k xs
  | .callV fs i es, m => evE Φ i m >>= fun x => (match x with
    | .int j => (match atD fs j with | some k => evA Φ es m >>= fun xs => Φ k xs | none => M.fail)
    | _ => M.fail)
  | .blt f es, m => evA Φ es m >>= fun xs => bltM f xs
  | .callR k es, m => evA Φ es m >>= fun xs => Φ k xs >>= fun d => if flatD d then pure d else M.fail
  | .mth f s a es, m => evE Φ a m >>= fun x => if tyB s x then evA Φ es m >>= fun xs => mthM f x xs else M.fail
  | .comp t it c elt own, m => evI Φ it m >>= fun xs => shut (mapM' (fun x => bindD t x (wipeD m own) >>= fun m' => evC Φ c m' >>= fun b => if b then evE Φ elt m' >>= fun y => pure (some y) else pure none) xs) >>= fun ys => if xs.length < sz then pure (.lst ys) else M.fail
  | .told ws c, m => tellM ws (evE Φ c m)
  | .compB t a c elt own, m => evE Φ a m >>= fun x => boxI (fun x => bindD t x (wipeD m own) >>= fun m' => evC Φ c m' >>= fun b => if b then evE Φ elt m' >>= fun y => pure (some y) else pure none) x >>= fun ys => pure (.lst ys)
  | .fld c k a, m => evE Φ a m >>= fun x => fldM c k x
  | .meth c mn k a es, m => evE Φ a m >>= fun x => isO c mn x >>= fun _ => evA Φ es m >>= fun xs => Φ k (x :: xs)
  | .new c k es, m => evA Φ es m >>= fun xs => newM c >>= fun x => Φ k (x :: xs) >>= fun r => (match r with | .non => pure x | _ => M.fail)
  | .frz e, m => evE Φ e m >>= fun x => if isDs x then pure x else M.fail
  | .box e, m => evE Φ e m >>= fun x => boxM x
  | .bbin o a b, m => evE Φ a m >>= fun x => evE Φ b m >>= fun y => derM x >>= fun x => derM y >>= fun y => opM o x y
  | .bidx a i, m => evE Φ a m >>= fun x => evE Φ i m >>= fun y => derM x >>= fun x => idxM x y
  | .bblt f es, m => evA Φ es m >>= fun xs => dersM xs >>= fun xs => bltM f xs
  | .bdgt a i, m => evE Φ a m >>= fun x => chkM true x >>= fun _ => evE Φ i m >>= fun y => derM x >>= fun x => dgtM x y
  | .bdgm a i v, m => evE Φ a m >>= fun x => chkM true x >>= fun _ => evE Φ i m >>= fun y => evE Φ v m >>= fun z => derM x >>= fun x => dgmM x y z
  | .bdin b i a, m => evE Φ i m >>= fun y => evE Φ a m >>= fun x => derM x >>= fun x => dinM b y x
  | .bapp a e, m => evE Φ a m >>= fun x => chkM false x >>= fun _ => evE Φ e m >>= fun y => bupM (fun d => appM d y >>= fun z => pure (.non, z)) x
  | .bpop b a, m => evE Φ a m >>= fun x => bupM (fun d => popM d b) x
  | .nd0, _ => newN []
  | .nd1 k v, m => newN [] >>= fun x => evE Φ k m >>= fun k => evE Φ v m >>= fun v => nd1M x k v
  | .ndp e, m => evE Φ e m >>= fun x => ndpM x
  | .dc1 i j, _ => pure (.dic false [(.int i, .int j)])
  | .nin b i a, m => evE Φ i m >>= fun y => evE Φ a m >>= fun x => ninM b y x
  | .ngt a i, m => evE Φ a m >>= fun x => evE Φ i m >>= fun y => ngtM x y
  | .ngm a i v, m => evE Φ a m >>= fun x => chkN x >>= fun _ => evE Φ i m >>= fun y => evE Φ v m >>= fun z => ngmM x y z
  | .nsd a i v, m => evE Φ a m >>= fun x => chkN x >>= fun _ => evE Φ i m >>= fun y => evE Φ v m >>= fun z => nsdM x y z
  | .dcmp b a c, m => evE Φ a m >>= fun x => evE Φ c m >>= fun y => dcmM b x y
  | .iitemsN _, _ => M.fail
  | .ival _, _ => M.fail
  | .ikeys _, _ => M.fail
  | .iitems _, _ => M.fail
  | .irng _, _ => M.fail
  | .ienum _, _ => M.fail
def evA (Φ : Fns) : List E → Slots → M (List D)
  | [], _ => pure []
  | e :: es, m => evE Φ e m >>= fun x => evA Φ es m >>= fun xs => pure (x :: xs)
def evO (Φ : Fns) : Option E → Slots → M (Option Int)
  | none, _ => pure none
  | some e, m => evE Φ e m >>= fun x => intM x >>= fun i => pure (some i)
def evC (Φ : Fns) : Option E → Slots → M Bool
  | none, _ => pure true
  | some e, m => evE Φ e m >>= fun x => x.asB
def evI (Φ : Fns) : E → Slots → M (List D)
  | .ival a, m => evE Φ a m >>= fun x => itemsM x
  | .irng es, m => evA Φ es m >>= fun xs => rngM xs
  | .ienum a, m => evE Φ a m >>= fun x => itemsM x >>= fun xs => pure (enumD 0 xs)
  | .ikeys a, m => evE Φ a m >>= fun x => dkeysM x
  | .iitems a, m => evE Φ a m >>= fun x => ditemsM x
  | .iitemsN a, m => evE Φ a m >>= fun x => lockM x
  | _, _ => M.fail
end

inductive TB where
  | set (i : Nat) (e : E) | ite (c : E) (a b : TB)
inductive S where
  | ret (e : E) | retN
  | set (i : Nat) (e : E) | setO (i : Nat) (e : E) | setD (i : Nat) (e : E) | setT (is : List Nat) (e : E) | par (is : List Nat) (es : List E) | move (i j : Nat)
  | app (i : Nat) (e : E) | ext (i : Nat) (e : E) | put (i : Nat) (k v : E) | popT (i : Nat) (t : Tg) (at0 : Bool)
  | ifS (c : E) (a b : List S)
  | forS (t : Tg) (it : E) (body : List S)
  | whileS (c : E) (body : List S)
  | brk | cont | pass
  | raise (k : Nat)
  | expr (e : E)
  | forM (i : Nat) (t : Tg) (body : List S) | fset (c k : Nat) (a e : E) | bput (a k v : E) | bset (a i v : E)
  | stuck
  | tryK (body : TB) (kept e : Nat)
  | tryR (i : Nat) (e : E) (k : Nat) | parO (i j : Nat) (a b : E) | forB (t : Tg) (en : Bool) (a : E) (body : List S) | lset (i : Nat) (k v : E) | nput (a k v : E)
inductive Fl where
  | next (m : Slots) | ret (d : D) | brk (m : Slots) | cont (m : Slots)
def forL (turn : D → Slots → M Fl) : List D → Slots → M Fl
  | [], m => pure (.next m)
  | x :: xs, m => turn x m >>= fun f => match f with
    | .next m' => forL turn xs m'
    | .cont m' => forL turn xs m'
    | .brk m' => pure (.next m')
    | .ret d => pure (.ret d)
def whileL (test : Slots → M Bool) (turn : Slots → M Fl) : Nat → Slots → M Fl
  | 0, _ => M.fail
  | n + 1, m => test m >>= fun b => if b then turn m >>= fun f => (match f with
    | .next m' => whileL test turn n m'
    | .cont m' => whileL test turn n m'
    | .brk m' => pure (.next m')
    | .ret d => pure (.ret d)) else pure (.next m)
def boxL (turn : D → Slots → M Fl) (n : Nat) (en : Bool) : Nat → Nat → Slots → M Fl
  | 0, _, _ => M.fail
  | k + 1, i, m => fun o => match o[n]? with
    | some (.box (.lst ds)) => (match ds[i]? with
      | none => .ok (.next m) o
      | some x => (turn (if en then .tup [.int i, x] else x) m >>= fun f => match f with
        | .next m' => boxL turn n en k (i + 1) m'
        | .cont m' => boxL turn n en k (i + 1) m'
        | .brk m' => pure (.next m')
        | .ret d => pure (.ret d)) o)
    | _ => .stuck
def overM (turn : D → Slots → M Fl) (en : Bool) (F : Nat) (m : Slots) (x : D) : M Fl := match x with
  | .obj n => boxL turn n en F 0 m
  | _ => M.fail
def slotM (m : Slots) (i : Nat) : M D := match m[i]? with
  | some (some d) => pure d
  | _ => M.fail
def keep (x : M Fl) (kept e : Nat) (m : Slots) : M Fl := fun o => match x o with
  | .exn k o' => .ok (.next ((m.set kept (some (.exc k))).set e none)) o'
  | r => r
def exT (Φ : Fns) : TB → Slots → M Fl
  | .set i e, m => evE Φ e m >>= fun d => pure (.next (m.set i (some d)))
  | .ite c a b, m => evE Φ c m >>= fun x => x.asB >>= fun t => if t then exT Φ a m else exT Φ b m
mutual
def exS (Φ : Fns) (F : Nat) : S → Slots → M Fl
  | .ret e, m => evE Φ e m >>= fun d => pure (.ret d)
  | .retN, _ => pure (.ret .non)
  | .set i e, m => evE Φ e m >>= fun d => pure (.next (m.set i (some d)))
  | .setO i e, m => evE Φ e m >>= fun d => if isLs d then pure (.next (m.set i (some d))) else M.fail
  | .setD i e, m => evE Φ e m >>= fun d => if isDs d then pure (.next (m.set i (some d))) else M.fail
  | .setT is e, m => evE Φ e m >>= fun d => bindD (.many is) d m >>= fun m' => pure (.next m')
  | .par is es, m => evA Φ es m >>= fun xs => if xs.length = is.length then pure (.next ((is.zip xs).foldl (fun m p => m.set p.1 (some p.2)) m)) else M.fail
  | .move i j, m => slotM m j >>= fun d => pure (.next ((m.set j none).set i (some d)))
  | .app i e, m => slotM m i >>= fun x => evE Φ e m >>= fun y => appM x y >>= fun z => pure (.next (m.set i (some z)))
  | .ext i e, m => slotM m i >>= fun x => evE Φ e m >>= fun y => extM x y >>= fun z => pure (.next (m.set i (some z)))
  | .put i k v, m => evE Φ v m >>= fun y => slotM m i >>= fun x => evE Φ k m >>= fun k => putM x k y >>= fun z => pure (.next (m.set i (some z)))
  | .popT i t at0, m => slotM m i >>= fun x => popM x at0 >>= fun p => bindD t p.1 (m.set i (some p.2)) >>= fun m' => pure (.next m')
  | .ifS c a b, m => evE Φ c m >>= fun x => x.asB >>= fun t => if t then exL Φ F a m else exL Φ F b m
  | .forS t it body, m => evI Φ it m >>= fun xs => forL (fun x m => bindD t x m >>= fun m' => exL Φ F body m') xs m
  | .forM i t body, m => slotM m i >>= fun x => itemsM x >>= fun xs => forL (fun x m => bindD t x m >>= fun m' => exL Φ F body m') xs (m.set i none)
  | .whileS c body, m => whileL (fun m => evE Φ c m >>= fun x => x.asB) (fun m => exL Φ F body m) F m
  | .brk, m => pure (.brk m)
  | .cont, m => pure (.cont m)
  | .pass, m => pure (.next m)
  | .raise k, _ => M.throw k
  | .expr e, m => evE Φ e m >>= fun _ => pure (.next m)
  | .fset c k a e, m => evE Φ e m >>= fun d => evE Φ a m >>= fun x => fsetM c k x d >>= fun _ => pure (.next m)
  | .bput a k v, m => evE Φ v m >>= fun y => evE Φ a m >>= fun x => evE Φ k m >>= fun k => bupM (fun d => putM d k y >>= fun z => pure (.non, z)) x >>= fun _ => pure (.next m)
  | .bset a i v, m => evE Φ v m >>= fun y => evE Φ a m >>= fun x => evE Φ i m >>= fun i => bupM (fun d => setLM d i y >>= fun z => pure (.non, z)) x >>= fun _ => pure (.next m)
  | .tryK body kept e, m => keep (exT Φ body m) kept e m
  | .tryR i e _, m => shut (evE Φ e m) >>= fun d => pure (.next (m.set i (some d)))
  | .forB t en a body, m => evE Φ a m >>= fun x => overM (fun x m => bindD t x m >>= fun m' => exL Φ F body m') en F m x
  | .parO i j a b, m => evE Φ a m >>= fun x => evE Φ b m >>= fun y => if isLs y then pure (.next ((m.set i (some x)).set j (some y))) else M.fail
  | .lset i k v, m => evE Φ v m >>= fun y => slotM m i >>= fun x => evE Φ k m >>= fun k => setLM x k y >>= fun z => pure (.next (m.set i (some z)))
  | .nput a k v, m => evE Φ v m >>= fun y => evE Φ a m >>= fun x => evE Φ k m >>= fun k => nputM x k y >>= fun _ => pure (.next m)
  | .stuck, _ => M.fail
def exL (Φ : Fns) (F : Nat) : List S → Slots → M Fl
  | [], m => pure (.next m)
  | s :: r, m => exS Φ F s m >>= fun f => match f with
    | .next m' => exL Φ F r m'
    | f => pure f
end
def tab (l : List (List D → M D)) : Fns := fun k => l.getD k fun _ => M.fail
def denM (Φ : Fns) (F np nl : Nat) (body : List S) (ds : List D) : M D :=
  if ds.length = np then exL Φ F body (ds.map some ++ List.replicate (nl - np) none) >>= fun f => (match f with
    | .ret d => pure d
    | .next _ => pure .non
    | _ => M.fail) else M.fail
end WB
namespace WB
theorem ltT_irr : ∀ a : List Nat, ltT a a = false
  | [] => rfl
  | x :: r => by simp [ltT, ltT_irr r]
theorem ltT_tri : ∀ a b : List Nat, a = b ∨ ltT a b = true ∨ ltT b a = true
  | [], [] => .inl rfl
  | [], _ :: _ => .inr (.inl rfl)
  | _ :: _, [] => .inr (.inr rfl)
  | x :: r, y :: s => by
    rcases Nat.lt_trichotomy x y with h | h | h
    · refine .inr (.inl ?_)
      have : x ≠ y := by omega
      simp [ltT, this, h]
    · subst h
      rcases ltT_tri r s with e | e | e
      · exact .inl (by rw [e])
      · exact .inr (.inl (by simp [ltT, e]))
      · exact .inr (.inr (by simp [ltT, e]))
    · refine .inr (.inr ?_)
      have : y ≠ x := by omega
      simp [ltT, this, h]
theorem ltT_trans : ∀ {a b c : List Nat}, ltT a b = true → ltT b c = true → ltT a c = true
  | [], [], _, h, _ => by simp [ltT] at h
  | [], _ :: _, [], _, h => by simp [ltT] at h
  | [], _ :: _, _ :: _, _, _ => rfl
  | _ :: _, [], _, h, _ => by simp [ltT] at h
  | _ :: _, _ :: _, [], _, h => by simp [ltT] at h
  | x :: r, y :: s, z :: t, h1, h2 => by
    simp only [ltT] at h1 h2 ⊢
    by_cases e1 : x = y
    · subst e1
      rw [if_pos rfl] at h1
      by_cases e2 : x = z
      · subst e2
        rw [if_pos rfl] at h2 ⊢
        exact ltT_trans h1 h2
      · rw [if_neg e2] at h2 ⊢
        exact h2
    · rw [if_neg e1] at h1
      by_cases e2 : y = z
      · subst e2
        rw [if_neg e1]
        exact h1
      · rw [if_neg e2] at h2
        have h1 := of_decide_eq_true h1
        have h2 := of_decide_eq_true h2
        have : x ≠ z := by omega
        rw [if_neg this]
        exact decide_eq_true (by omega)
theorem ltT_asym {a b : List Nat} (h : ltT a b = true) : ltT b a = false := by
  cases e : ltT b a with
  | false => rfl
  | true =>
    have := ltT_trans h e
    rw [ltT_irr] at this
    cases this
theorem leT_anti {a b : List Nat} (h : ltT a b = false) (h' : ltT b a = false) : a = b := by
  rcases ltT_tri a b with e | e | e
  · exact e
  · rw [h] at e; cases e
  · rw [h'] at e; cases e
theorem leT_trans {a b c : List Nat} (h : ltT b a = false) (h' : ltT c b = false) : ltT c a = false := by
  cases e : ltT c a with
  | false => rfl
  | true =>
    rcases ltT_tri b c with q | q | q
    · subst q; rw [h] at e; cases e
    · have := ltT_trans q e
      rw [h] at this; cases this
    · rw [h'] at q; cases q
abbrev UpT (l : List (List Nat)) : Prop := l.Pairwise fun a b => ltT b a = false
abbrev RisT (l : List (List Nat)) : Prop := l.Pairwise fun a b => ltT a b = true
theorem ris_unique : ∀ {l m : List (List Nat)}, (∀ x, x ∈ l ↔ x ∈ m) → RisT l → RisT m → l = m
  | [], m, h, _, _ => by
    cases m with
    | nil => rfl
    | cons b m => exact absurd ((h b).mpr List.mem_cons_self) (by simp)
  | a :: l, m, h, h1, h2 => by
    cases m with
    | nil => exact absurd ((h a).mp List.mem_cons_self) (by simp)
    | cons b m =>
      obtain ⟨a1, a2⟩ := List.pairwise_cons.mp h1
      obtain ⟨b1, b2⟩ := List.pairwise_cons.mp h2
      have e : a = b := by
        rcases List.mem_cons.mp ((h a).mp List.mem_cons_self) with e | ha
        · exact e
        · rcases List.mem_cons.mp ((h b).mpr List.mem_cons_self) with e | hb
          · exact e.symm
          · have x1 := b1 a ha
            have x2 := a1 b hb
            rw [ltT_asym x1] at x2; cases x2
      subst e
      have : l = m := ris_unique (fun x => by
        constructor
        · intro hx
          rcases List.mem_cons.mp ((h x).mp (List.mem_cons_of_mem _ hx)) with e | q
          · subst e
            have := a1 x hx
            rw [ltT_irr] at this; cases this
          · exact q
        · intro hx
          rcases List.mem_cons.mp ((h x).mpr (List.mem_cons_of_mem _ hx)) with e | q
          · subst e
            have := b1 x hx
            rw [ltT_irr] at this; cases this
          · exact q) a2 b2
      rw [this]
theorem insU_mem (a x : List Nat) : ∀ l : List (List Nat), x ∈ insU a l ↔ x = a ∨ x ∈ l
  | [] => by simp [insU]
  | b :: r => by
    unfold insU
    split
    · rename_i c
      subst c
      simp
    · split
      · rw [List.mem_cons, insU_mem a x r, List.mem_cons]
        constructor
        · rintro (h | h | h)
          · exact .inr (.inl h)
          · exact .inl h
          · exact .inr (.inr h)
        · rintro (h | h | h)
          · exact .inr (.inl h)
          · exact .inl h
          · exact .inr (.inr h)
      · rw [List.mem_cons]
theorem sortU_mem (x : List Nat) : ∀ l : List (List Nat), x ∈ sortU l ↔ x ∈ l
  | [] => by simp [sortU]
  | a :: r => by
    unfold sortU
    rw [insU_mem, sortU_mem x r, List.mem_cons]
theorem insU_ris (a : List Nat) : ∀ l : List (List Nat), RisT l → RisT (insU a l)
  | [], _ => by simp [insU]
  | b :: r, h => by
    obtain ⟨h1, h2⟩ := List.pairwise_cons.mp h
    unfold insU
    split
    · exact h
    · rename_i ne
      split
      · rename_i c
        refine List.pairwise_cons.mpr ⟨fun x hx => ?_, insU_ris a r h2⟩
        rcases (insU_mem a x r).mp hx with e | hx
        · subst e; exact c
        · exact h1 x hx
      · rename_i c
        have c : ltT b a = false := by simpa using c
        have ab : ltT a b = true := by
          rcases ltT_tri a b with e | e | e
          · exact absurd e ne
          · exact e
          · rw [c] at e; cases e
        refine List.pairwise_cons.mpr ⟨fun x hx => ?_, h⟩
        rcases List.mem_cons.mp hx with e | hx
        · subst e; exact ab
        · exact ltT_trans ab (h1 x hx)
theorem sortU_ris : ∀ l : List (List Nat), RisT (sortU l)
  | [] => .nil
  | a :: r => insU_ris a _ (sortU_ris r)
theorem sortU_eq {l m : List (List Nat)} (p : ∀ x, x ∈ m ↔ x ∈ l) (u : RisT m) : m = sortU l := ris_unique (fun x => (p x).trans (sortU_mem x l).symm) u (sortU_ris l)
end WB
namespace WB
open PySem L2

structure Glob where
  P : Program
  w : World
  K : PySem.W.Frag
  fnA : Nat → Addr
  clsA : Nat → Addr
  insA : Nat → Addr
  fnames : List PySem.Str
  fnd : fnames.Nodup
  fne : ("" : PySem.Str) ∉ fnames
  T : List (Addr × PySem.Str)
def Glob.fname (G : Glob) (k : Nat) : PySem.Str := G.fnames.getD k ""
theorem Glob.inj (G : Glob) {j k : Nat} (h : k < G.fnames.length) (e : G.fname j = G.fname k) : j = k := by
  unfold Glob.fname at e
  rw [List.getD_eq_getElem?_getD, List.getD_eq_getElem?_getD, List.getElem?_eq_getElem h] at e
  by_cases l : j < G.fnames.length
  · rw [List.getElem?_eq_getElem l] at e
    exact (List.getElem_inj G.fnd).mp e
  · rw [List.getElem?_eq_none (Nat.le_of_not_lt l)] at e
    have e' : ("" : PySem.Str) = G.fnames[k] := e
    exact absurd (e' ▸ List.getElem_mem h) G.fne
inductive Kk where
  | ob (n : Nat) | od (n : Nat) | fl (n f : Nat) | tb (i : Nat)
  deriving DecidableEq
structure Pl where
  of : Kk → Addr
  n : Nat
abbrev txt (s : List Nat) : PySem.Str := ⟨s.toArray⟩
def ExcH (C a : Addr) : HO := .ext fun h => ∃ (oe : Obj) (vs : Array Value), h.get? a = some oe ∧ Zc (.ref C) none oe ∧ oe.data = .fields vs
structure Ext (T : Addr → Prop) (H H' : Hp) : Prop where
  keep : ∀ a o, ¬ T a → H a = some o → H' a = some o
  tups : ∀ a xs, H a = some (.tup xs) → H' a = some (.tup xs)
  frzs : ∀ a o u, H a = some (.frz o u) → H' a = some (.frz o u)
  cods : ∀ a q, H a = some (LamX.CodeO a q) → H' a = some (LamX.CodeO a q)
  dom : ∀ a, H' a = none → H a = none
theorem Ext.refl {T : Addr → Prop} {H : Hp} : Ext T H H := ⟨fun _ _ _ h => h, fun _ _ h => h, fun _ _ _ h => h, fun _ _ h => h, fun _ h => h⟩
theorem Ext.trans {T T' : Addr → Prop} {H H1 H2 : Hp} (a : Ext T H H1) (b : Ext T' H1 H2) (s : ∀ x, T' x → H x ≠ none → T x) : Ext T H H2 :=
  ⟨fun x o t h => b.keep x o (fun z => t (s x z (by rw [h]; simp))) (a.keep x o t h), fun x xs h => b.tups x xs (a.tups x xs h), fun x o u h => b.frzs x o u (a.frzs x o u h), fun x q h => b.cods x q (a.cods x q h), fun x h => a.dom x (b.dom x h)⟩
theorem Ext.new {T : Addr → Prop} {H : Hp} {p : Addr} {o : HO} (h : H p = none) : Ext T H (upd H p o) := by
  have ne : ∀ a u, H a = some u → a ≠ p := fun a u e z => by rw [z, h] at e; cases e
  refine ⟨fun a u _ e => ?_, fun a xs e => ?_, fun a u x e => ?_, fun a q e => ?_, fun a e => ?_⟩
  · rw [upd_ne (ne a u e)]; exact e
  · rw [upd_ne (ne a _ e)]; exact e
  · rw [upd_ne (ne a _ e)]; exact e
  · rw [upd_ne (ne a _ e)]; exact e
  · by_cases z : a = p
    · rw [z]; exact h
    · rw [upd_ne z] at e; exact e
theorem Ext.mono {T T' : Addr → Prop} {H H' : Hp} (a : Ext T H H') (s : ∀ x, T x → T' x) : Ext T' H H' := ⟨fun x o t h => a.keep x o (fun z => t (s x z)) h, a.tups, a.frzs, a.cods, a.dom⟩
abbrev Al (H H' : Hp) : Prop := Ext (fun _ => False) H H'
theorem Ext.sqT {T : Addr → Prop} {H H' : Hp} {K : PySem.W.Frag} {a : Addr} {xs : List V} (e : Ext T H H') (h : SqT K H a xs) : SqT K H' a xs := by
  rcases h with (h | ⟨o, h⟩) | h
  · exact .inl (.inl (e.tups _ _ h))
  · exact .inl (.inr ⟨o, e.frzs _ _ _ h⟩)
  · exact .inr h
theorem Ext.rd {T : Addr → Prop} {H H' : Hp} {a : Addr} {u : HO} (e : Ext T H H') (t : ¬ T a) (h : Rd H a u) : Rd H' a u := by
  rcases h with h | ⟨o, h⟩
  · exact .inl (e.keep _ _ t h)
  · exact .inr ⟨o, e.frzs _ _ _ h⟩
theorem Ext.tabS {T : Addr → Prop} {H H' : Hp} {P : Addr} {q : PySem.Str} (e : Ext T H H') (t : ¬ T P) (h : LamX.TabS H P q) : LamX.TabS H' P q := by
  obtain ⟨ps, h1, h2, h3⟩ := h
  refine ⟨ps, e.keep _ _ t h1, h2, fun pos cv hc => ?_⟩
  obtain ⟨c, e1, e2⟩ := h3 pos cv hc
  exact ⟨c, e1, e.cods _ _ e2⟩
def ScrL (K : PySem.W.Frag) (H : Hp) (a : Addr) (xs : List V) : Prop := (∃ o, H a = some (.frz o (.lst xs))) ∨
  ∃ (o : Obj) (its : Array Value) (n : Nat), K.lookup a = some o ∧ o.cls = .type "list" ∧ o.dict = none ∧ o.data = .seq its n ∧ its.size ≤ sizeLine ∧ Vals xs its.toList
theorem ScrL.sq {K : PySem.W.Frag} {H : Hp} {a : Addr} {xs : List V} (h : ScrL K H a xs) : SqL K H a xs := by
  rcases h with h | h
  · exact .inl (.inr h)
  · exact .inr h
def keyD : Key → D
  | .inl i => .int i
  | .inr s => .str s.cps.toList
def DObj (u : HO) (t : Bool) (ks : List D) (ws : List V) : Prop := match t with
  | false => ∃ kvs : List (Key × V), u = .dK kvs ∧ kvs.map (fun p => keyD p.1) = ks ∧ kvs.map (·.2) = ws
  | true => ∃ kvs : List (List Key × V), u = .dT kvs ∧ kvs.map (fun p => D.tup (p.1.map keyD)) = ks ∧ kvs.map (·.2) = ws
mutual
inductive Rep (G : Glob) (pl : Pl) (H : Hp) (B : Addr → Prop) : V → D → Prop where
  | non : Rep G pl H B .non .non
  | bl (b : Bool) : Rep G pl H B (.bl b) (.bl b)
  | int (i : Int) : Rep G pl H B (.int i) (.int i)
  | str (s : List Nat) : Rep G pl H B (.str (txt s)) (.str s)
  | tup {a : Addr} {vs : List V} {ds : List D} (h : H a = some (.tup vs)) (r : Reps G pl H B vs ds) : Rep G pl H B (.ref a) (.tup ds)
  | lst {a : Addr} {vs : List V} {ds : List D} (b : ¬ B a) (h : H a = some (.lst vs)) (r : Reps G pl H B vs ds) : Rep G pl H B (.ref a) (.lst ds)
  | scr {a : Addr} {vs : List V} {ds : List D} (h : ScrL G.K H a vs) (r : Reps G pl H B vs ds) : Rep G pl H B (.ref a) (.scr ds)
  | scrL {a : Addr} {vs : List V} {ds : List D} (b : ¬ B a) (h : H a = some (.lst vs)) (r : Reps G pl H B vs ds) : Rep G pl H B (.ref a) (.scr ds)
  | dic {a : Addr} {z : Obj} {u : HO} {t : Bool} {ks : List D} {ws : List V} {ds : List D} {kd : List (D × D)} (h : H a = some (.frz z u)) (o : DObj u t ks ws) (r : Reps G pl H B ws ds) (e : kd = ks.zip ds) (l : ks.length = ds.length) : Rep G pl H B (.ref a) (.dic t kd)
  | fn (k : Nat) : Rep G pl H B (.ref (G.fnA k)) (.fn k)
  | hot (a k : Nat) : Rep G pl H B (.ref a) (.hot a k)
  | exc {a : Addr} (k : Nat) (b : ¬ B a) (h : H a = some (ExcH (G.clsA k) a)) : Rep G pl H B (.ref a) (.exc k)
  | obj (n : Nat) (h : n < pl.n) : Rep G pl H B (.ref (pl.of (.ob n))) (.obj n)
inductive Reps (G : Glob) (pl : Pl) (H : Hp) (B : Addr → Prop) : List V → List D → Prop where
  | nil : Reps G pl H B [] []
  | cons {v : V} {d : D} {vs : List V} {ds : List D} (h : Rep G pl H B v d) (t : Reps G pl H B vs ds) : Reps G pl H B (v :: vs) (d :: ds)
end
mutual
def nkO : D → PySem.NestedKey
  | .int i => .num i
  | .str s => .text (txt s)
  | .tup ds => .tup (nksO ds)
  | _ => .none
def nksO : List D → List PySem.NestedKey
  | [] => []
  | d :: ds => nkO d :: nksO ds
end
abbrev NEnt := PySem.NestedKey × Addr × V
def NRel : List NEnt → List (PySem.NestedKey × Addr × Value) → Prop := Paired fun p q => p.1 = q.1 ∧ p.2.1 = q.2.1 ∧ RelV p.2.2 q.2.2
def NO (P : Program) (w : World) (a : Addr) (xs : List NEnt) : HO := .ext fun h => xs.length ≤ sizeLine ∧ (a == sysModules) = false ∧ ∃ ys, NRel xs ys ∧
  ∃ o es ep, h.get? a = some o ∧ o.ExactDict ∧ o.data = .dict es ep ∧ es.toList = ys.map (entryOfKey (nestedKind P w)) ∧ (ys.map (·.1)).Nodup
def NdRep (G : Glob) (pl : Pl) (H : Hp) (B : Addr → Prop) (p : Addr) (l : Bool) (kd : List (D × D)) : Prop := ∃ xs : List NEnt,
  (if l = true then ∃ z, H p = some (.frz z (NO G.P G.w p xs)) else H p = some (NO G.P G.w p xs)) ∧ xs.map (·.1) = kd.map (fun q => nkO q.1) ∧ (∀ q ∈ kd, nkB q.1 = true) ∧
  Reps G pl H B (xs.map fun x => V.ref x.2.1) (kd.map (·.1)) ∧ Reps G pl H B (xs.map (·.2.2)) (kd.map (·.2))
section
variable {G : Glob} {pl pl' : Pl} {H H' : Hp} {B B' : Addr → Prop}
theorem NdRep.imp {p : Addr} {l : Bool} {kd : List (D × D)} (x : NdRep G pl H B p l kd) (k : ∀ u, l = false → H p = some u → H' p = some u) (z : ∀ o u, H p = some (.frz o u) → H' p = some (.frz o u)) (r : ∀ {vs : List V} {ds : List D}, Reps G pl H B vs ds → Reps G pl' H' B' vs ds) : NdRep G pl' H' B' p l kd := by
  obtain ⟨xs, h1, h2, h3, h4, h5⟩ := x
  refine ⟨xs, ?_, h2, h3, r h4, r h5⟩
  cases l with
  | true =>
    obtain ⟨o, h1⟩ := h1
    exact ⟨o, z _ _ h1⟩
  | false => exact k _ rfl h1
theorem Reps.length : ∀ {vs : List V} {ds : List D}, Reps G pl H B vs ds → vs.length = ds.length
  | _, _, .nil => rfl
  | _, _, .cons _ t => congrArg Nat.succ t.length
theorem Reps.get : ∀ {vs : List V} {ds : List D} {i : Nat} {d : D}, Reps G pl H B vs ds → ds[i]? = some d → ∃ v, vs[i]? = some v ∧ Rep G pl H B v d
  | _, _, _, _, .nil, e => by simp at e
  | _, _, 0, _, .cons h _, e => by simp at e; subst e; exact ⟨_, rfl, h⟩
  | _, _, i + 1, d, .cons _ t, e => by
    obtain ⟨v, h1, h2⟩ := Reps.get (i := i) (d := d) t (by simpa using e)
    exact ⟨v, by simpa using h1, h2⟩
theorem Reps.get' : ∀ {vs : List V} {ds : List D} {i : Nat} {v : V}, Reps G pl H B vs ds → vs[i]? = some v → ∃ d, ds[i]? = some d ∧ Rep G pl H B v d
  | _, _, _, _, .nil, e => by simp at e
  | _, _, 0, _, .cons h _, e => by simp at e; subst e; exact ⟨_, rfl, h⟩
  | _, _, i + 1, d, .cons _ t, e => by
    obtain ⟨v, h1, h2⟩ := Reps.get' (i := i) (v := d) t (by simpa using e)
    exact ⟨v, by simpa using h1, h2⟩
theorem Reps.append : ∀ {vs ws : List V} {ds es : List D}, Reps G pl H B vs ds → Reps G pl H B ws es → Reps G pl H B (vs ++ ws) (ds ++ es)
  | _, _, _, _, .nil, s => s
  | _, _, _, _, .cons h t, s => .cons h (Reps.append t s)
theorem Reps.take : ∀ {vs : List V} {ds : List D} (n : Nat), Reps G pl H B vs ds → Reps G pl H B (vs.take n) (ds.take n)
  | _, _, 0, _ => .nil
  | _, _, _ + 1, .nil => .nil
  | _, _, n + 1, .cons h t => .cons h (Reps.take n t)
theorem Reps.drop : ∀ {vs : List V} {ds : List D} (n : Nat), Reps G pl H B vs ds → Reps G pl H B (vs.drop n) (ds.drop n)
  | _, _, 0, r => r
  | _, _, _ + 1, .nil => .nil
  | _, _, n + 1, .cons _ t => Reps.drop n t
theorem Reps.reverse {vs : List V} {ds : List D} (h : Reps G pl H B vs ds) : Reps G pl H B vs.reverse ds.reverse := by
  have key : ∀ {vs : List V} {ds : List D} {ws : List V} {es : List D}, Reps G pl H B vs ds → Reps G pl H B ws es → Reps G pl H B (vs.reverseAux ws) (ds.reverseAux es) := by
    intro vs
    induction vs with
    | nil => intro ds ws es h s; cases h; exact s
    | cons v vs ih =>
      intro ds ws es h s
      cases h with
      | cons h t =>
        have := ih t (.cons h s)
        exact this
  exact key h .nil
theorem Reps.rep' {vs : List V} {ds : List D} (h : Reps G pl H B vs ds) : ∀ n : Nat, Reps G pl H B (rep n vs) (rep n ds)
  | 0 => .nil
  | n + 1 => h.append (h.rep' n)
theorem Reps.set {v : V} {d : D} (r : Rep G pl H B v d) : ∀ {vs : List V} {ds : List D} (i : Nat), Reps G pl H B vs ds → Reps G pl H B (vs.set i v) (ds.set i d)
  | _, _, _, .nil => .nil
  | _, _, 0, .cons _ t => .cons r t
  | _, _, i + 1, .cons q t => .cons q (Reps.set r i t)
mutual
theorem Rep.go (e : ∀ a vs, H a = some (.tup vs) → H' a = some (.tup vs)) (z : ∀ a o u, H a = some (.frz o u) → H' a = some (.frz o u)) (l : ∀ a (u : HO), ¬ B a → H a = some u → ¬ B' a ∧ H' a = some u) (x : ∀ a C, ¬ B a → H a = some (ExcH C a) → ¬ B' a ∧ H' a = some (ExcH C a)) (n : ∀ k, k < pl.n → pl'.of (.ob k) = pl.of (.ob k) ∧ k < pl'.n) :
    ∀ {v : V} {d : D}, Rep G pl H B v d → Rep G pl' H' B' v d
  | _, _, .non => .non
  | _, _, .bl b => .bl b
  | _, _, .int i => .int i
  | _, _, .str s => .str s
  | _, _, .tup h r => .tup (e _ _ h) (Reps.go e z l x n r)
  | _, _, .lst b h r => .lst (l _ _ b h).1 (l _ _ b h).2 (Reps.go e z l x n r)
  | _, _, .scr h r => .scr (h.imp (fun ⟨o, q⟩ => ⟨o, z _ _ _ q⟩) fun q => q) (Reps.go e z l x n r)
  | _, _, .scrL b h r => .scrL (l _ _ b h).1 (l _ _ b h).2 (Reps.go e z l x n r)
  | _, _, .dic h o r q m => .dic (z _ _ _ h) o (Reps.go e z l x n r) q m
  | _, _, .fn k => .fn k
  | _, _, .hot a k => .hot a k
  | _, _, .exc k b h => .exc k (x _ _ b h).1 (x _ _ b h).2
  | _, _, .obj k h => by rw [← (n k h).1]; exact .obj k (n k h).2
theorem Reps.go (e : ∀ a vs, H a = some (.tup vs) → H' a = some (.tup vs)) (z : ∀ a o u, H a = some (.frz o u) → H' a = some (.frz o u)) (l : ∀ a (u : HO), ¬ B a → H a = some u → ¬ B' a ∧ H' a = some u) (x : ∀ a C, ¬ B a → H a = some (ExcH C a) → ¬ B' a ∧ H' a = some (ExcH C a)) (n : ∀ k, k < pl.n → pl'.of (.ob k) = pl.of (.ob k) ∧ k < pl'.n) :
    ∀ {vs : List V} {ds : List D}, Reps G pl H B vs ds → Reps G pl' H' B' vs ds
  | _, _, .nil => .nil
  | _, _, .cons h t => .cons (Rep.go e z l x n h) (Reps.go e z l x n t)
end
end
end WB
namespace WB
open PySem L2
def Post {α : Type} (x : M α) (o : Objs) (P : α → Objs → Prop) (E : Nat → Objs → Prop) : Prop := match x o with
  | .ok a o' => P a o'
  | .exn k o' => E k o'
  | .stuck => False
theorem Post.mono {α : Type} {x : M α} {o : Objs} {P P' : α → Objs → Prop} {E E' : Nat → Objs → Prop} (h : Post x o P E) (hp : ∀ a o', P a o' → P' a o') (he : ∀ k o', E k o' → E' k o') : Post x o P' E' := by
  unfold Post at h ⊢
  revert h
  cases x o with
  | ok a o' => exact fun h => hp _ _ h
  | exn k o' => exact fun h => he _ _ h
  | stuck => exact fun h => h
theorem Post.bind {α β : Type} {x : M α} {f : α → M β} {o : Objs} {P : β → Objs → Prop} {E : Nat → Objs → Prop} : Post (x >>= f) o P E ↔ Post x o (fun a o' => Post (f a) o' P E) E := by
  have e : (x >>= f) o = M.bnd x f o := rfl
  unfold Post
  rw [e]
  unfold M.bnd
  cases x o <;> exact Iff.rfl
theorem Post.pure {α : Type} {a : α} {o : Objs} {P : α → Objs → Prop} {E : Nat → Objs → Prop} : Post (pure a) o P E ↔ P a o := Iff.rfl
theorem Post.fail {α : Type} {o : Objs} {P : α → Objs → Prop} {E : Nat → Objs → Prop} : Post M.fail o P E ↔ False := Iff.rfl
theorem Post.throw {α : Type} {k : Nat} {o : Objs} {P : α → Objs → Prop} {E : Nat → Objs → Prop} : Post (M.throw k) o P E ↔ E k o := Iff.rfl

def live (G : Glob) (o : Objs) : Kk → Prop
  | .ob n => n < o.length
  | .od n => ∃ c fs, o[n]? = some (.ins c fs)
  | .fl _ _ => False
  | .tb i => i < G.T.length
def Vol (G : Glob) (o : Objs) (pl : Pl) (a : Addr) : Prop := ∃ k, live G o k ∧ pl.of k = a
def OwnRep (G : Glob) (pl : Pl) (H : Hp) (B : Addr → Prop) (p : Addr) : D → Prop
  | .lst ds => ∃ vs, H p = some (.lst vs) ∧ Reps G pl H B vs ds
  | .dic t kd => ∃ u ks ws ds, H p = some u ∧ DObj u t ks ws ∧ Reps G pl H B ws ds ∧ kd = ks.zip ds ∧ ks.length = ds.length
  | _ => False
structure OR (G : Glob) (pl : Pl) (o : Objs) (H : Hp) (B : Addr → Prop) : Prop where
  n : pl.n = o.length
  inj : ∀ k k', live G o k → live G o k' → pl.of k = pl.of k' → k = k'
  there : ∀ k, live G o k → H (pl.of k) ≠ none
  box : ∀ n d, o[n]? = some (.box d) → OwnRep G pl H B (pl.of (.ob n)) d
  ins : ∀ n c fs, o[n]? = some (.ins c fs) → ∃ vs, H (pl.of (.ob n)) = some (.ins (G.insA c) (pl.of (.od n)) vs) ∧ H (pl.of (.od n)) = some (.own (pl.of (.ob n))) ∧
    (∀ f d, fs.lookup f = some d → ∃ v, vs.lookup (G.fname f) = some v ∧ Rep G pl H B v d) ∧
    (∀ f, fs.lookup f = none → vs.lookup (G.fname f) = none) ∧ vs.length = fs.length
  tbl : ∀ (i : Nat) (p : Addr × PySem.Str), G.T[i]? = some p → pl.of (.tb i) = p.1
  tabs : LamX.Tabs G.T H
  nd : ∀ n l kd, o[n]? = some (.nd l kd) → NdRep G pl H B (pl.of (.ob n)) l kd
  lk : ∀ n d, o[n]? = some (.lk d) → Rep G pl H B (.ref (pl.of (.ob n))) d
structure Step (G : Glob) (o o' : Objs) (pl pl' : Pl) (H H' : Hp) : Prop where
  ext : Ext (Vol G o pl) H H'
  agree : ∀ k, live G o k → pl'.of k = pl.of k ∧ live G o' k
  fresh : ∀ k, live G o' k → ¬ live G o k → H (pl'.of k) = none
  n : pl.n ≤ pl'.n
section
variable {G : Glob} {o o' o2 : Objs} {pl pl' pl2 : Pl} {H H' H2 : Hp} {B B' : Addr → Prop}
theorem Step.refl : Step G o o pl pl H H := ⟨Ext.refl, fun _ h => ⟨rfl, h⟩, fun _ h n => absurd h n, Nat.le_refl _⟩
theorem Step.al (e : Al H H') : Step G o o pl pl H H' := ⟨e.mono fun _ z => z.elim, fun _ h => ⟨rfl, h⟩, fun _ h n => absurd h n, Nat.le_refl _⟩
theorem Step.vol (s : Step G o o' pl pl' H H') {a : Addr} (v : Vol G o' pl' a) (h : H a ≠ none) : Vol G o pl a := by
  obtain ⟨k, l, e⟩ := v
  by_cases q : live G o k
  · exact ⟨k, q, by rw [← (s.agree k q).1]; exact e⟩
  · exact absurd (e ▸ s.fresh k l q) h
theorem Step.trans (s : Step G o o' pl pl' H H') (t : Step G o' o2 pl' pl2 H' H2) : Step G o o2 pl pl2 H H2 where
  ext := s.ext.trans t.ext fun x v h => s.vol v h
  agree := fun k l => ⟨((t.agree k (s.agree k l).2).1).trans (s.agree k l).1, (t.agree k (s.agree k l).2).2⟩
  fresh := fun k l n => by
    by_cases q : live G o' k
    · rw [(t.agree k q).1]; exact s.fresh k q n
    · exact s.ext.dom _ (t.fresh k l q)
  n := Nat.le_trans s.n t.n
theorem OR.obK (r : OR G pl o H B) {n : Nat} (h : n < pl.n) : live G o (.ob n) := by
  show n < o.length
  rw [← r.n]; exact h
theorem Rep.step {v : V} {d : D} (x : Rep G pl H B v d) (r : OR G pl o H B) (s : Step G o o' pl pl' H H') (n' : pl'.n = o'.length) (bv : ∀ a, Vol G o pl a → B a) (hb : ∀ a, H a ≠ none → B' a → B a) : Rep G pl' H' B' v d := by
  refine Rep.go s.ext.tups s.ext.frzs (fun a vs nb h => ?_) (fun a C nb h => ?_) (fun k hk => ?_) x
  · have nv : ¬ Vol G o pl a := fun z => nb (bv a z)
    exact ⟨fun z => nb (hb a (by rw [h]; simp) z), s.ext.keep _ _ nv h⟩
  · have nv : ¬ Vol G o pl a := fun z => nb (bv a z)
    exact ⟨fun z => nb (hb a (by rw [h]; simp) z), s.ext.keep _ _ nv h⟩
  · obtain ⟨e, l⟩ := s.agree (.ob k) (r.obK hk)
    have l' : k < o'.length := l
    exact ⟨e, by rw [n']; exact l'⟩
theorem Reps.step {vs : List V} {ds : List D} (x : Reps G pl H B vs ds) (r : OR G pl o H B) (s : Step G o o' pl pl' H H') (n' : pl'.n = o'.length) (bv : ∀ a, Vol G o pl a → B a) (hb : ∀ a, H a ≠ none → B' a → B a) : Reps G pl' H' B' vs ds := by
  induction ds generalizing vs with
  | nil => cases x; exact .nil
  | cons d ds ih =>
    cases x with
    | cons h t => exact .cons (h.step r s n' bv hb) (ih t)
theorem OwnRep.step {p : Addr} {d : D} (x : OwnRep G pl H B p d) (np : ¬ Vol G o pl p) (r : OR G pl o H B) (s : Step G o o' pl pl' H H') (n' : pl'.n = o'.length) (bv : ∀ a, Vol G o pl a → B a) (hb : ∀ a, H a ≠ none → B' a → B a) : OwnRep G pl' H' B' p d := by
  cases d with
  | lst ds =>
    obtain ⟨vs, h, rs⟩ := x
    exact ⟨vs, s.ext.keep _ _ np h, rs.step r s n' bv hb⟩
  | dic t kd =>
    obtain ⟨u, ks, ws, ds, h, o, rs, q⟩ := x
    exact ⟨u, ks, ws, ds, s.ext.keep _ _ np h, o, rs.step r s n' bv hb, q⟩
  | _ => exact x.elim
theorem OwnRep.some {p : Addr} {d : D} (x : OwnRep G pl H B p d) : H p ≠ none := by
  cases d with
  | lst ds => obtain ⟨vs, h, _⟩ := x; rw [h]; simp
  | dic t kd => obtain ⟨u, ks, ws, ds, h, _⟩ := x; rw [h]; simp
  | _ => exact x.elim
def Bv (G : Glob) (O : List Nat) (B0 : Addr → Prop) (R : Nat → Addr) (pl : Pl) (m : Slots) (o : Objs) (a : Addr) : Prop :=
  B0 a ∨ (∃ i d, i ∈ O ∧ m[i]? = some (some d) ∧ R i = a) ∨ Vol G o pl a
structure SR (G : Glob) (O : List Nat) (B0 : Addr → Prop) (R : Nat → Addr) (pl : Pl) (m : Slots) (o : Objs) (σ : L2.St) (H : Hp) : Prop where
  len : m.length = σ.length
  old : ∀ a, B0 a → H a ≠ none
  bv : ∀ a, B0 a → ¬ Vol G o pl a
  br : ∀ i d, i ∈ O → m[i]? = some (some d) → ¬ B0 (R i) ∧ ¬ Vol G o pl (R i)
  rr : ∀ i j d d', i ∈ O → j ∈ O → m[i]? = some (some d) → m[j]? = some (some d') → R i = R j → i = j
  val : ∀ i d, i ∉ O → m[i]? = some (some d) → ∃ v, σ[i]? = some (some v) ∧ Rep G pl H (Bv G O B0 R pl m o) v d
  own : ∀ i d, i ∈ O → m[i]? = some (some d) → σ[i]? = some (some (.ref (R i))) ∧ OwnRep G pl H (Bv G O B0 R pl m o) (R i) d
  obj : OR G pl o H (Bv G O B0 R pl m o)
  ty : ∀ i d, i ∈ O → m[i]? = some (some d) → isDs d = decide (i + 10000 ∈ O)
variable {O : List Nat} {B0 : Addr → Prop} {R : Nat → Addr} {m : Slots} {σ : L2.St}
theorem Bv.vol {a : Addr} (h : Vol G o pl a) : Bv G O B0 R pl m o a := .inr (.inr h)
theorem Bv.step (s : Step G o o' pl pl' H H') {a : Addr} (h : H a ≠ none) (b : Bv G O B0 R pl' m o' a) : Bv G O B0 R pl m o a := by
  rcases b with b | b | b
  · exact .inl b
  · exact .inr (.inl b)
  · exact .inr (.inr (s.vol b h))
theorem SR.some (sr : SR G O B0 R pl m o σ H) {a : Addr} (b : Bv G O B0 R pl m o a) : H a ≠ none := by
  rcases b with b | ⟨i, d, hi, hm, e⟩ | ⟨k, l, e⟩
  · exact sr.old a b
  · rw [← e]; exact (sr.own i d hi hm).2.some
  · rw [← e]; exact sr.obj.there k l
theorem SR.step (sr : SR G O B0 R pl m o σ H) (s : Step G o o' pl pl' H H') (r' : OR G pl' o' H' (Bv G O B0 R pl' m o')) : SR G O B0 R pl' m o' σ H' where
  len := sr.len
  old := fun a b z => sr.old a b (s.ext.dom a z)
  bv := fun a b v => sr.bv a b (s.vol v (sr.old a b))
  br := fun i d hi hm => ⟨(sr.br i d hi hm).1, fun v => (sr.br i d hi hm).2 (s.vol v (sr.own i d hi hm).2.some)⟩
  rr := sr.rr
  val := fun i d hi hm => by
    obtain ⟨v, e, r⟩ := sr.val i d hi hm
    exact ⟨v, e, r.step sr.obj s r'.n (fun a z => Bv.vol z) fun a h b => Bv.step s h b⟩
  own := fun i d hi hm => by
    obtain ⟨e, r⟩ := sr.own i d hi hm
    exact ⟨e, r.step (sr.br i d hi hm).2 sr.obj s r'.n (fun a z => Bv.vol z) fun a h b => Bv.step s h b⟩
  obj := r'
  ty := sr.ty
theorem OR.tabV (r : OR G pl o H B) {p : Addr × PySem.Str} (h : p ∈ G.T) : Vol G o pl p.1 := by
  obtain ⟨i, hi, e⟩ := List.mem_iff_getElem.mp h
  exact ⟨.tb i, hi, r.tbl i p (by rw [List.getElem?_eq_getElem hi, e])⟩
theorem OR.al (r : OR G pl o H B) (e : Al H H') (hb : ∀ a, H a ≠ none → B' a → B a) (bv : ∀ a, Vol G o pl a → B a) : OR G pl o H' B' := by
  have st : Step G o o pl pl H H' := Step.al e
  have own : ∀ {p : Addr} {d : D}, OwnRep G pl H B p d → OwnRep G pl H' B' p d := fun {p d} x => by
    cases d with
    | lst ds =>
      obtain ⟨vs, h, rs⟩ := x
      exact ⟨vs, e.keep _ _ (fun z => z) h, rs.step r st r.n bv hb⟩
    | dic t kd =>
      obtain ⟨u, ks, ws, ds, h, o, rs, q⟩ := x
      exact ⟨u, ks, ws, ds, e.keep _ _ (fun z => z) h, o, rs.step r st r.n bv hb, q⟩
    | _ => exact x.elim
  refine ⟨r.n, r.inj, fun k l z => r.there k l (e.dom _ z), fun n d h => own (r.box n d h), fun n c fs h => ?_, r.tbl, fun p hp => e.tabS (fun z => z) (r.tabs p hp), fun n l kd h => (r.nd n l kd h).imp (fun u _ q => e.keep _ _ (fun z => z) q) (fun z u q => e.frzs _ _ _ q) fun x => x.step r st r.n bv hb, fun n d h => (r.lk n d h).step r st r.n bv hb⟩
  obtain ⟨vs, h1, h2, h3, h4⟩ := r.ins n c fs h
  refine ⟨vs, e.keep _ _ (fun z => z) h1, e.keep _ _ (fun z => z) h2, fun f d hf => ?_, h4⟩
  obtain ⟨v, l, q⟩ := h3 f d hf
  refine ⟨v, l, ?_⟩
  exact q.step r st r.n bv hb
theorem SR.al (sr : SR G O B0 R pl m o σ H) (e : Al H H') : SR G O B0 R pl m o σ H' :=
  sr.step (Step.al e) (sr.obj.al e (fun _ _ b => b) fun _ z => Bv.vol z)
def RT (G : Glob) (pl : Pl) (o : Objs) (H : Hp) (B : Addr → Prop) (v : V) (d : D) : Prop := Rep G pl H B v d ∨ ∃ p, v = .ref p ∧ ¬ Vol G o pl p ∧ OwnRep G pl H B p d
theorem RT.step {v : V} {d : D} (x : RT G pl o H B v d) (r : OR G pl o H B) (s : Step G o o' pl pl' H H') (n' : pl'.n = o'.length) (bv : ∀ a, Vol G o pl a → B a) (hb : ∀ a, H a ≠ none → B' a → B a) : RT G pl' o' H' B' v d := by
  rcases x with x | ⟨p, e, np, x⟩
  · exact .inl (x.step r s n' bv hb)
  · exact .inr ⟨p, e, fun v => np (s.vol v x.some), x.step np r s n' bv hb⟩
def FR (G : Glob) (pl : Pl) (H H' : Hp) (B : Addr → Prop) (v : V) (d : D) : Prop := ∃ p, v = .ref p ∧ H p = none ∧ ¬ B p ∧ OwnRep G pl H' (fun a => B a ∨ a = p) p d
end
end WB
namespace WB
open PySem L2
theorem PE.imp {X : Cx} {e : Expr} {t t' : TE} (h : PE X e t) (w : ∀ σ H Q, t' σ H Q → t σ H Q) : PE X e t' := ⟨fun pins s σ H Q I q => h.run pins s σ H Q I (w σ H Q q)⟩
theorem PT.imp {X : Cx} {e : Expr} {t t' : TT} (h : PT X e t) (w : ∀ σ H Q, t' σ H Q → t σ H Q) : PT X e t' := ⟨fun pins s σ H Q I q => h.run pins s σ H Q I (w σ H Q q)⟩
theorem PW.imp {X : Cx} {e : Expr} {t t' : TT} (h : PW X e t) (w : ∀ σ H Q, t' σ H Q → t σ H Q) : PW X e t' := ⟨fun wh pins s σ H Q I q => h.run wh pins s σ H Q I (w σ H Q q)⟩
theorem PA.imp {X : Cx} {e : List Expr} {t t' : TA} (h : PA X e t) (w : ∀ σ H Q, t' σ H Q → t σ H Q) : PA X e t' := ⟨fun pos pins s σ H Q I q => h.run pos pins s σ H Q I (w σ H Q q)⟩
theorem PI.imp {X : Cx} {tg e : Expr} {t t' : TI} (h : PI X tg e t) (w : ∀ σ H Q, t' σ H Q → t σ H Q) : PI X tg e t' := ⟨fun pins s σ H Q I q => h.run pins s σ H Q I (w σ H Q q)⟩
theorem PS.imp {X : Cx} {e : Stmt} {t t' : TS} (h : PS X e t) (w : ∀ D σ H, t' D σ H → t D σ H) : PS X e t' := ⟨fun pins s σ H D I q => h.run pins s σ H D I (w D σ H q)⟩
theorem PSs.imp {X : Cx} {e : List Stmt} {t t' : TS} (h : PSs X e t) (w : ∀ D σ H, t' D σ H → t D σ H) : PSs X e t' := ⟨fun pins s σ H D I q => h.run pins s σ H D I (w D σ H q)⟩

structure Fs (G : Glob) (O : List Nat) (σ : L2.St) (H : Hp) where
  B0 : Addr → Prop
  R : Nat → Addr
  pl : Pl
  m : Slots
  o : Objs
  sr : SR G O B0 R pl m o σ H
section
variable {G : Glob} {O : List Nat} {σ : L2.St} {H H' : Hp}
abbrev Fs.B (f : Fs G O σ H) : Addr → Prop := Bv G O f.B0 f.R f.pl f.m f.o
structure Fs.To (f : Fs G O σ H) (f' : Fs G O σ H') : Prop where
  b0 : f'.B0 = f.B0
  r : f'.R = f.R
  m : f'.m = f.m
  st : Step G f.o f'.o f.pl f'.pl H H'
def Fs.at (f : Fs G O σ H) {pl' : Pl} {o' : Objs} (sr : SR G O f.B0 f.R pl' f.m o' σ H') : Fs G O σ H' := ⟨f.B0, f.R, pl', f.m, o', sr⟩
theorem Fs.To.refl (f : Fs G O σ H) : f.To f := ⟨rfl, rfl, rfl, Step.refl⟩
theorem Fs.To.trans {H1 H2 : Hp} {f : Fs G O σ H} {f1 : Fs G O σ H1} {f2 : Fs G O σ H2} (a : f.To f1) (b : f1.To f2) : f.To f2 := ⟨b.b0.trans a.b0, b.r.trans a.r, b.m.trans a.m, a.st.trans b.st⟩
def Fs.al (f : Fs G O σ H) (e : Al H H') : Fs G O σ H' := ⟨f.B0, f.R, f.pl, f.m, f.o, f.sr.al e⟩
theorem Fs.al_to (f : Fs G O σ H) (e : Al H H') : f.To (f.al e) := ⟨rfl, rfl, rfl, Step.al e⟩
theorem Fs.To.bv {f : Fs G O σ H} {f' : Fs G O σ H'} (t : f.To f') : ∀ a, H a ≠ none → f'.B a → f.B a := fun a h b => by
  obtain ⟨_, _, _, _, _, sr'⟩ := f'
  obtain ⟨e1, e2, e3, st⟩ := t
  dsimp only at e1 e2 e3 st
  subst e1 e2 e3
  exact Bv.step st h b
theorem Fs.To.rep {f : Fs G O σ H} {f' : Fs G O σ H'} (t : f.To f') {v : V} {d : D} (x : Rep G f.pl H f.B v d) : Rep G f'.pl H' f'.B v d := x.step f.sr.obj t.st f'.sr.obj.n (fun _ z => Bv.vol z) t.bv
theorem Fs.To.reps {f : Fs G O σ H} {f' : Fs G O σ H'} (t : f.To f') {v : List V} {d : List D} (x : Reps G f.pl H f.B v d) : Reps G f'.pl H' f'.B v d := x.step f.sr.obj t.st f'.sr.obj.n (fun _ z => Bv.vol z) t.bv
theorem Fs.To.rt {f : Fs G O σ H} {f' : Fs G O σ H'} (t : f.To f') {v : V} {d : D} (x : RT G f.pl f.o H f.B v d) : RT G f'.pl f'.o H' f'.B v d := x.step f.sr.obj t.st f'.sr.obj.n (fun _ z => Bv.vol z) t.bv
end
structure Val (G : Glob) (O : List Nat) (σ : L2.St) {H H' : Hp} (f' : Fs G O σ H') (f : Fs G O σ H) (sf fr : Bool) (v : V) (d : D) : Prop where
  rt : RT G f'.pl f'.o H' f'.B v d
  sf : sf = true → Rep G f'.pl H' f'.B v d
  fr : fr = true → isL d = true → ∃ p, v = .ref p ∧ H p = none ∧ ¬ f'.B p ∧ OwnRep G f'.pl H' (fun a => f'.B a ∨ a = p) p d ∧ OR G f'.pl f'.o H' (fun a => f'.B a ∨ a = p)
section
variable (G : Glob) (O : List Nat) (W : WX) (Φ : Fns)
def KX {σ : L2.St} {H : Hp} (f : Fs G O σ H) : Nat → Objs → Prop := fun k o' => ∀ H' (f' : Fs G O σ H'), f.To f' → f'.o = o' → W (.ref (G.clsA k)) none σ H'
def KE {σ : L2.St} {H : Hp} (f : Fs G O σ H) (sf fr : Bool) (Q : VK) : D → Objs → Prop := fun d o' => ∀ v H' (f' : Fs G O σ H'), f.To f' → f'.o = o' → Val G O σ f' f sf fr v d → Q v H'
def KT {σ : L2.St} {H : Hp} (f : Fs G O σ H) (Q : Bool → Hp → Prop) : Bool → Objs → Prop := fun b o' => ∀ H' (f' : Fs G O σ H'), f.To f' → f'.o = o' → Q b H'
def TEv (c : E) (sf fr : Bool) : TE := fun σ H Q => ∃ f : Fs G O σ H, Post (evE Φ c f.m) f.o (KE G O f sf fr Q) (KX G O W f)
def TTv (c : E) : TT := fun σ H Q => ∃ f : Fs G O σ H, Post (evE Φ c f.m >>= D.asB) f.o (KT G O f Q) (KX G O W f)
structure Vals' {σ : L2.St} {H' : Hp} (f' : Fs G O σ H') (sf : Bool) (vs : List V) (ds : List D) : Prop where
  rt : Paired (fun v d => RT G f'.pl f'.o H' f'.B v d) vs ds
  sf : sf = true → Reps G f'.pl H' f'.B vs ds
def KA {σ : L2.St} {H : Hp} (f : Fs G O σ H) (sf : Bool) (Q : List V → Hp → Prop) : List D → Objs → Prop := fun ds o' => ∀ vs H' (f' : Fs G O σ H'), f.To f' → f'.o = o' → Vals' G O f' sf vs ds → Q vs H'
def TAv (cs : List E) (sf : Bool) : TA := fun σ H Q => ∃ f : Fs G O σ H, Post (evA Φ cs f.m) f.o (KA G O f sf Q) (KX G O W f)
end
section
variable {G : Glob} {O : List Nat} {W : WX} {Φ : Fns} {σ : L2.St} {H H1 : Hp}
theorem KX.to {f : Fs G O σ H} {f1 : Fs G O σ H1} {k : Nat} {o' : Objs} (h : KX G O W f k o') (t : f.To f1) : KX G O W f1 k o' := fun H' f' t' e => h H' f' (t.trans t') e
theorem KT.to {f : Fs G O σ H} {f1 : Fs G O σ H1} {b : Bool} {o' : Objs} {Q : Bool → Hp → Prop} (h : KT G O f Q b o') (t : f.To f1) : KT G O f1 Q b o' := fun H' f' t' e => h H' f' (t.trans t') e
theorem FR.back {pl : Pl} {H0 H' : Hp} {B : Addr → Prop} {v : V} {d : D} (x : FR G pl H1 H' B v d) (e : ∀ a, H1 a = none → H0 a = none) : FR G pl H0 H' B v d := by
  obtain ⟨p, e1, e2, e3, e4⟩ := x
  exact ⟨p, e1, e p e2, e3, e4⟩
theorem KE.to {f : Fs G O σ H} {f1 : Fs G O σ H1} {sf fr : Bool} {d : D} {o' : Objs} {Q : VK} (h : KE G O f sf fr Q d o') (t : f.To f1) : KE G O f1 sf fr Q d o' :=
  fun v H' f' t' e x => h v H' f' (t.trans t') e ⟨x.rt, x.sf, fun z l => let ⟨p, e1, e2, r⟩ := x.fr z l; ⟨p, e1, t.st.ext.dom p e2, r⟩⟩
theorem KA.to {f : Fs G O σ H} {f1 : Fs G O σ H1} {sf : Bool} {d : List D} {o' : Objs} {Q : List V → Hp → Prop} (h : KA G O f sf Q d o') (t : f.To f1) : KA G O f1 sf Q d o' := fun v H' f' t' e x => h v H' f' (t.trans t') e x
theorem TEv.then {c : E} {sf fr : Bool} {α : Type} {k : D → M α} (f : Fs G O σ H) {P : α → Objs → Prop} {Q : VK} (h : Post (evE Φ c f.m >>= k) f.o P (KX G O W f))
    (q : ∀ v H1 (f1 : Fs G O σ H1) d, f.To f1 → Val G O σ f1 f sf fr v d → Post (k d) f1.o P (KX G O W f1) → Q v H1) : TEv G O W Φ c sf fr σ H Q := by
  refine ⟨f, Post.mono (Post.bind.mp h) (fun d o' hd v H1 f1 t e x => ?_) fun _ _ z => z⟩
  subst e
  exact q v H1 f1 d t x (Post.mono hd (fun _ _ z => z) fun _ _ z => z.to t)
theorem TTv.then {c : E} {α : Type} {k : Bool → M α} (f : Fs G O σ H) {P : α → Objs → Prop} {Q : Bool → Hp → Prop} (h : Post ((evE Φ c f.m >>= D.asB) >>= k) f.o P (KX G O W f))
    (q : ∀ H1 (f1 : Fs G O σ H1) b, f.To f1 → Post (k b) f1.o P (KX G O W f1) → Q b H1) : TTv G O W Φ c σ H Q := by
  refine ⟨f, Post.mono (Post.bind.mp h) (fun d o' hd H1 f1 t e => ?_) fun _ _ z => z⟩
  subst e
  exact q H1 f1 d t (Post.mono hd (fun _ _ z => z) fun _ _ z => z.to t)
theorem TAv.then {cs : List E} {sf : Bool} {α : Type} {k : List D → M α} (f : Fs G O σ H) {P : α → Objs → Prop} {Q : List V → Hp → Prop} (h : Post (evA Φ cs f.m >>= k) f.o P (KX G O W f))
    (q : ∀ vs H1 (f1 : Fs G O σ H1) ds, f.To f1 → Vals' G O f1 sf vs ds → Post (k ds) f1.o P (KX G O W f1) → Q vs H1) : TAv G O W Φ cs sf σ H Q := by
  refine ⟨f, Post.mono (Post.bind.mp h) (fun d o' hd v H1 f1 t e x => ?_) fun _ _ z => z⟩
  subst e
  exact q v H1 f1 d t x (Post.mono hd (fun _ _ z => z) fun _ _ z => z.to t)
end
end WB
namespace WB
open PySem L2
section
variable {G : Glob} {pl : Pl} {o : Objs} {H : Hp} {B : Addr → Prop}
theorem RT.non {v : V} (h : RT G pl o H B v .non) : v = .non := by
  rcases h with h | ⟨_, _, _, h⟩
  · cases h; rfl
  · exact h.elim
theorem RT.bl {v : V} {b : Bool} (h : RT G pl o H B v (.bl b)) : v = .bl b := by
  rcases h with h | ⟨_, _, _, h⟩
  · cases h; rfl
  · exact h.elim
theorem RT.int {v : V} {i : Int} (h : RT G pl o H B v (.int i)) : v = .int i := by
  rcases h with h | ⟨_, _, _, h⟩
  · cases h; rfl
  · exact h.elim
theorem RT.str {v : V} {s : List Nat} (h : RT G pl o H B v (.str s)) : v = .str (txt s) := by
  rcases h with h | ⟨_, _, _, h⟩
  · cases h; rfl
  · exact h.elim
theorem RT.tupH {v : V} {ds : List D} (h : RT G pl o H B v (.tup ds)) : ∃ a vs, v = .ref a ∧ H a = some (.tup vs) ∧ Reps G pl H B vs ds := by
  rcases h with h | ⟨_, _, _, h⟩
  · cases h with
    | tup h r => exact ⟨_, _, rfl, h, r⟩
  · exact h.elim
theorem RT.tup {v : V} {ds : List D} (h : RT G pl o H B v (.tup ds)) : ∃ a vs, v = .ref a ∧ SqT G.K H a vs ∧ Reps G pl H B vs ds :=
  let ⟨a, vs, e, q, r⟩ := h.tupH
  ⟨a, vs, e, .inl (.inl q), r⟩
theorem RT.dic {v : V} {t : Bool} {kd : List (D × D)} (h : RT G pl o H B v (.dic t kd)) : ∃ a u ks ws ds, v = .ref a ∧ Rd H a u ∧ DObj u t ks ws ∧ Reps G pl H B ws ds ∧ kd = ks.zip ds ∧ ks.length = ds.length := by
  rcases h with h | ⟨p, e, _, u, ks, ws, ds, h1, h2, h3, h4, h5⟩
  · cases h with
    | dic h o r e l => exact ⟨_, _, _, _, _, rfl, .inr ⟨_, h⟩, o, r, e, l⟩
  · exact ⟨p, u, ks, ws, ds, e, .inl h1, h2, h3, h4, h5⟩
theorem RT.lst {v : V} {ds : List D} (h : RT G pl o H B v (.lst ds)) : ∃ a vs, v = .ref a ∧ H a = some (.lst vs) ∧ Reps G pl H B vs ds := by
  rcases h with h | ⟨p, e, _, vs, h, r⟩
  · cases h with
    | lst _ h r => exact ⟨_, _, rfl, h, r⟩
  · exact ⟨p, vs, e, h, r⟩
theorem RT.scr {v : V} {ds : List D} (h : RT G pl o H B v (.scr ds)) : ∃ a vs, v = .ref a ∧ SqL G.K H a vs ∧ Reps G pl H B vs ds := by
  rcases h with h | ⟨_, _, _, h⟩
  · cases h with
    | scr h r => exact ⟨_, _, rfl, h.sq, r⟩
    | scrL b h r => exact ⟨_, _, rfl, .inl (.inl h), r⟩
  · exact h.elim
end
theorem eqL_len {n : Nat} : ∀ {xs ys : List D} {b : Bool}, eqL n xs ys = some b → xs.length ≠ ys.length → b = false
  | [], [], _, _, h => absurd rfl h
  | [], _ :: _, b, e, _ => by simp only [eqL] at e; cases e; rfl
  | _ :: _, [], b, e, _ => by simp only [eqL] at e; cases e; rfl
  | x :: xs, y :: ys, b, e, h => by
    simp only [eqL] at e
    cases e1 : eqD n x y with
    | none => rw [e1] at e; cases e
    | some a =>
      cases e2 : eqL n xs ys with
      | none => rw [e1, e2] at e; cases e
      | some c =>
        rw [e1, e2] at e
        cases e
        rw [eqL_len e2 (fun z => h (congrArg Nat.succ z))]
        exact Bool.and_false _
def eqAtJ (n : Nat) (xs ys : List D) (j : Nat) : Bool := match xs[j]?, ys[j]? with
  | some x, some y => (eqD n x y).getD false
  | _, _ => false
theorem eqL_each {n : Nat} : ∀ {xs ys : List D} {b : Bool}, eqL n xs ys = some b → ∀ (j : Nat) (x y : D), xs[j]? = some x → ys[j]? = some y → eqD n x y = some (eqAtJ n xs ys j)
  | [], _, _, _, j, x, y, hx, _ => by simp at hx
  | _ :: _, [], _, _, j, x, y, _, hy => by simp at hy
  | x0 :: xs, y0 :: ys, b, e, j, x, y, hx, hy => by
    simp only [eqL] at e
    cases e1 : eqD n x0 y0 with
    | none => rw [e1] at e; cases e
    | some a =>
      cases e2 : eqL n xs ys with
      | none => rw [e1, e2] at e; cases e
      | some c =>
        cases j with
        | zero =>
          simp at hx hy
          subst hx hy
          rw [e1]
          unfold eqAtJ
          simp [e1]
        | succ j =>
          simp at hx hy
          have := eqL_each e2 j x y hx hy
          rw [this]
          unfold eqAtJ
          simp
theorem range_all_succ (n : Nat) (f : Nat → Bool) : (List.range (n + 1)).all f = (f 0 && (List.range n).all fun j => f (j + 1)) := by
  rw [List.range_succ_eq_map, List.all_cons, List.all_map]
  rfl
theorem eqL_all {n : Nat} : ∀ {xs ys : List D} {b : Bool}, eqL n xs ys = some b → b = ((List.range (min xs.length ys.length)).all (eqAtJ n xs ys) && xs.length == ys.length)
  | [], [], b, e => by simp only [eqL] at e; cases e; rfl
  | [], _ :: _, b, e => by simp only [eqL] at e; cases e; simp
  | _ :: _, [], b, e => by simp only [eqL] at e; cases e; simp
  | x :: xs, y :: ys, b, e => by
    simp only [eqL] at e
    cases e1 : eqD n x y with
    | none => rw [e1] at e; cases e
    | some a =>
      cases e2 : eqL n xs ys with
      | none => rw [e1, e2] at e; cases e
      | some c =>
        rw [e1, e2] at e
        cases e
        have h := eqL_all e2
        have hm : min (x :: xs).length (y :: ys).length = min xs.length ys.length + 1 := by simp only [List.length_cons]; omega
        rw [hm, range_all_succ]
        have h0 : eqAtJ n (x :: xs) (y :: ys) 0 = a := by unfold eqAtJ; simp [e1]
        have hs : (fun j => eqAtJ n (x :: xs) (y :: ys) (j + 1)) = eqAtJ n xs ys := by funext j; unfold eqAtJ; simp
        have hl : ((x :: xs).length == (y :: ys).length) = (xs.length == ys.length) := by simp
        rw [h0, hs, hl, h, Bool.and_assoc]
section
variable {G : Glob} {pl : Pl} {o : Objs} {H : Hp} {B : Addr → Prop} {X : Cx} {pins : List (Addr × Obj)} {σ : L2.St} {s : Shared}
theorem txt_beq (a b : List Nat) : (txt a == txt b) = (a == b) := by
  rw [Bool.eq_iff_iff, beq_iff_eq, beq_iff_eq]
  constructor
  · intro h
    injection h with h
    exact List.toArray_inj h
  · intro h; rw [h]
theorem rd_tup (I : Inv X pins σ H s) (hK : X.K = G.K) {a : Addr} {vs : List V} (h : SqT G.K H a vs) : ∃ its : List Value, Vals vs its ∧ s.heap.IsTuple a its.toArray := by
  rw [← hK] at h
  obtain ⟨its, r, t, _⟩ := I.tuple h
  exact ⟨its, r, t⟩
theorem rd_lst (I : Inv X pins σ H s) {a : Addr} {vs : List V} (h : H a = some (.lst vs)) : ∃ its : List Value, Vals vs its ∧ s.heap.IsList a its.toArray := by
  obtain ⟨its, r, t, _⟩ := I.list (xs := vs) (a := a) (.inl (.inl h))
  exact ⟨its, r, t.isList⟩
theorem rd_scr (I : Inv X pins σ H s) (hK : X.K = G.K) {a : Addr} {vs : List V} (h : SqL G.K H a vs) : ∃ its : List Value, Vals vs its ∧ s.heap.IsList a its.toArray := by
  rw [← hK] at h
  obtain ⟨its, r, t, _⟩ := I.list h
  exact ⟨its, r, t.isList⟩
theorem rep_same (I : Inv X pins σ H s) (hK : X.K = G.K) : ∀ (n : Nat) (dx dy : D) (b : Bool) (v : V), RT G pl o H B v dx → RT G pl o H B v dy → eqD n dx dy = some b → b = true := by
  intro n
  induction n with
  | zero =>
    intro dx dy b v hx hy e
    cases dx <;> cases dy <;> simp only [eqD, Option.some.injEq, reduceCtorEq] at e <;> first
      | (subst e; rfl)
      | (have h1 := hx.bl; have h2 := hy.bl; rw [h1] at h2; cases h2; subst e; simp)
      | (have h1 := hx.int; have h2 := hy.int; rw [h1] at h2; cases h2; subst e; simp)
      | (have h1 := hx.str; have h2 := hy.str; rw [h1] at h2; injection h2 with h2; injection h2 with h2; have h2 := List.toArray_inj h2; subst h2; subst e; simp)
      | (exfalso; first
          | (have h1 := hx.non; have h2 := hy.bl; rw [h1] at h2; cases h2; done)
          | (have h1 := hx.non; have h2 := hy.int; rw [h1] at h2; cases h2; done)
          | (have h1 := hx.non; have h2 := hy.str; rw [h1] at h2; cases h2; done)
          | (have h1 := hx.bl; have h2 := hy.non; rw [h1] at h2; cases h2; done)
          | (have h1 := hx.bl; have h2 := hy.int; rw [h1] at h2; cases h2; done)
          | (have h1 := hx.bl; have h2 := hy.str; rw [h1] at h2; cases h2; done)
          | (have h1 := hx.int; have h2 := hy.non; rw [h1] at h2; cases h2; done)
          | (have h1 := hx.int; have h2 := hy.bl; rw [h1] at h2; cases h2; done)
          | (have h1 := hx.int; have h2 := hy.str; rw [h1] at h2; cases h2; done)
          | (have h1 := hx.str; have h2 := hy.non; rw [h1] at h2; cases h2; done)
          | (have h1 := hx.str; have h2 := hy.bl; rw [h1] at h2; cases h2; done)
          | (have h1 := hx.str; have h2 := hy.int; rw [h1] at h2; cases h2; done))
  | succ n ih =>
    have many : ∀ (xs ys : List D) (vs : List V) (b : Bool), Reps G pl H B vs xs → Reps G pl H B vs ys → eqL n xs ys = some b → b = true := by
      intro xs
      induction xs with
      | nil =>
        intro ys vs b hx hy e
        cases hx
        cases hy
        simp only [eqL] at e
        cases e; rfl
      | cons x xs ihx =>
        intro ys vs b hx hy e
        cases hx with
        | cons h1 t1 =>
          cases hy with
          | @cons _ y _ ys h2 t2 =>
            simp only [eqL] at e
            cases e1 : eqD n x y with
            | none => rw [e1] at e; cases e
            | some a =>
              cases e2 : eqL n xs ys with
              | none => rw [e1, e2] at e; cases e
              | some c =>
                rw [e1, e2] at e
                cases e
                rw [ih x y a _ (.inl h1) (.inl h2) e1, ihx ys _ c t1 t2 e2]; rfl
    intro dx dy b v hx hy e
    have nt : ∀ {a : Addr} {vs ws : List V}, SqT G.K H a vs → H a = some (.lst ws) → False := fun {a vs ws} h1 h2 => by
      obtain ⟨i1, _, y1⟩ := rd_tup I hK h1
      obtain ⟨i2, _, y2⟩ := rd_lst I h2
      obtain ⟨ob, e, c, _⟩ := y1
      obtain ⟨ob2, e2, c2, _⟩ := y2
      rw [e] at e2; cases e2; rw [c] at c2; injection c2 with c2; exact absurd c2 (by decide)
    cases dx <;> cases dy <;> simp only [eqD, Option.some.injEq, reduceCtorEq] at e <;> first
      | (subst e; rfl)
      | (have h1 := hx.bl; have h2 := hy.bl; rw [h1] at h2; cases h2; subst e; simp; done)
      | (have h1 := hx.int; have h2 := hy.int; rw [h1] at h2; cases h2; subst e; simp; done)
      | (have h1 := hx.str; have h2 := hy.str; rw [h1] at h2; injection h2 with h2; injection h2 with h2; have h2 := List.toArray_inj h2; subst h2; subst e; simp; done)
      | (obtain ⟨a1, w1, e1, q1, p1⟩ := hx.tup; obtain ⟨a2, w2, e2, q2, p2⟩ := hy.tup; rw [e1] at e2; cases e2
         have : w1 = w2 := I.tuple_inj (by rw [hK]; exact q1) (by rw [hK]; exact q2)
         subst this; exact many _ _ _ b p1 p2 e)
      | (obtain ⟨a1, w1, e1, q1, p1⟩ := hx.lst; obtain ⟨a2, w2, e2, q2, p2⟩ := hy.lst; rw [e1] at e2; cases e2
         rw [q1] at q2; cases q2; exact many _ _ _ b p1 p2 e)
      | (obtain ⟨a1, w1, e1, q1, p1⟩ := hx.scr; obtain ⟨a2, w2, e2, q2, p2⟩ := hy.lst; rw [e1] at e2; cases e2
         have : w1 = w2 := I.list_inj (by rw [hK]; exact q1) (.inl (.inl q2))
         subst this; exact many _ _ _ b p1 p2 e)
      | (exfalso; first
          | (obtain ⟨a1, w1, e1, q1, p1⟩ := hx.tup; obtain ⟨a2, w2, e2, q2, p2⟩ := hy.lst; rw [e1] at e2; cases e2; exact nt q1 q2)
          | (obtain ⟨a1, w1, e1, q1, p1⟩ := hx.lst; obtain ⟨a2, w2, e2, q2, p2⟩ := hy.tup; rw [e1] at e2; cases e2; exact nt q2 q1)
          | (first | have h1 := hx.non | have h1 := hx.bl | have h1 := hx.int | have h1 := hx.str | (obtain ⟨_, _, h1, _⟩ := hx.tup) | (obtain ⟨_, _, h1, _⟩ := hx.lst) | (obtain ⟨_, _, h1, _⟩ := hx.scr)
             first | have h2 := hy.non | have h2 := hy.bl | have h2 := hy.int | have h2 := hy.str | (obtain ⟨_, _, h2, _⟩ := hy.tup) | (obtain ⟨_, _, h2, _⟩ := hy.lst)
             rw [h1] at h2; cases h2; done))
def EqIH (G : Glob) (pl : Pl) (o : Objs) (H : Hp) (B : Addr → Prop) (s : Shared) (n : Nat) : Prop := ∀ (A : Around) (dx dy : D) (x y : V) (v u : Value) (b : Bool), A.units + n < cLine → eqD n dx dy = some b → RT G pl o H B x dx → RT G pl o H B y dy → RelV x v → RelV y u → SeqAt.EqAt A s v u b
theorem eq_items {n : Nat} (ih : EqIH G pl o H B s n) {A : Around} (hu : A.units + (n + 1) < cLine) {i1 i2 : List Value} {w1 w2 : List V} {d1 d2 : List D} {b : Bool} (z1 : Vals w1 i1) (z2 : Vals w2 i2) (p1 : Reps G pl H B w1 d1) (p2 : Reps G pl H B w2 d2) (e : eqL n d1 d2 = some b) :
    ∀ j (h1 : j < i1.toArray.size) (h2 : j < i2.toArray.size), SeqAt.EqAt A.in1 s i1.toArray[j] i2.toArray[j] (eqAtJ n d1 d2 j) := by
  intro j h1 h2
  have l1 : j < d1.length := by rw [← p1.length, z1.length]; simpa using h1
  have l2 : j < d2.length := by rw [← p2.length, z2.length]; simpa using h2
  obtain ⟨v1, e1, r1⟩ := p1.get (i := j) (d := d1[j]) (by simp [l1])
  obtain ⟨v2, e2, r2⟩ := p2.get (i := j) (d := d2[j]) (by simp [l2])
  obtain ⟨u1, f1, s1⟩ := z1.get e1
  obtain ⟨u2, f2, s2⟩ := z2.get e2
  have g1 : i1.toArray[j] = u1 := by
    have := (List.getElem?_eq_some_iff.mp f1).2
    simpa using this
  have g2 : i2.toArray[j] = u2 := by
    have := (List.getElem?_eq_some_iff.mp f2).2
    simpa using this
  rw [g1, g2]
  exact ih A.in1 _ _ _ _ _ _ _ (by show A.units + 1 + n < cLine; omega) (eqL_each e j _ _ (by simp [l1]) (by simp [l2])) (.inl r1) (.inl r2) s1 s2
theorem rc_tups {n : Nat} (ih : EqIH G pl o H B s n) {A : Around} (hu : A.units + (n + 1) < cLine) {a1 a2 : Addr} {i1 i2 : List Value} {w1 w2 : List V} {d1 d2 : List D} {b : Bool} (y1 : s.heap.IsTuple a1 i1.toArray) (y2 : s.heap.IsTuple a2 i2.toArray) (z1 : Vals w1 i1) (z2 : Vals w2 i2)
    (p1 : Reps G pl H B w1 d1) (p2 : Reps G pl H B w2 d2) (e : eqL n d1 d2 = some b) : SeqAt.RcAt A s (.ref a1) (.ref a2) b := by
  have q := SeqAt.RcAt.tuples y1 y2 (by omega) (eq_items ih hu z1 z2 p1 p2 e)
  rw [eqL_all e]
  have l1 : i1.toArray.size = d1.length := by rw [List.size_toArray, ← z1.length, p1.length]
  have l2 : i2.toArray.size = d2.length := by rw [List.size_toArray, ← z2.length, p2.length]
  rw [l1, l2] at q
  exact q
theorem rc_lsts {n : Nat} (ih : EqIH G pl o H B s n) {A : Around} (hu : A.units + (n + 1) < cLine) {a1 a2 : Addr} {i1 i2 : List Value} {w1 w2 : List V} {d1 d2 : List D} {b : Bool} (y1 : s.heap.IsList a1 i1.toArray) (y2 : s.heap.IsList a2 i2.toArray) (z1 : Vals w1 i1) (z2 : Vals w2 i2)
    (p1 : Reps G pl H B w1 d1) (p2 : Reps G pl H B w2 d2) (e : eqL n d1 d2 = some b) : SeqAt.RcAt A s (.ref a1) (.ref a2) b := by
  have l1 : i1.toArray.size = d1.length := by rw [List.size_toArray, ← z1.length, p1.length]
  have l2 : i2.toArray.size = d2.length := by rw [List.size_toArray, ← z2.length, p2.length]
  by_cases hl : d1.length = d2.length
  · have q := SeqAt.RcAt.lists y1 y2 (by rw [l1, l2, hl]) (by omega) (eq_items ih hu z1 z2 p1 p2 e)
    rw [eqL_all e, hl]
    rw [l1, hl] at q
    simpa using q
  · rw [eqL_len e hl]
    exact SeqAt.RcAt.lists_lengths y1 y2 (by rw [l1, l2]; simpa using hl) (by omega)
theorem ne_tups {n : Nat} (ih : EqIH G pl o H B s n) {A : Around} (hu : A.units + (n + 1) < cLine) {a1 a2 : Addr} {i1 i2 : List Value} {w1 w2 : List V} {d1 d2 : List D} {b : Bool} (y1 : s.heap.IsTuple a1 i1.toArray) (y2 : s.heap.IsTuple a2 i2.toArray) (z1 : Vals w1 i1) (z2 : Vals w2 i2)
    (p1 : Reps G pl H B w1 d1) (p2 : Reps G pl H B w2 d2) (e : eqL n d1 d2 = some b) : SeqAt.RcNeAt A s (.ref a1) (.ref a2) (!b) := by
  have q := SeqAt.RcNeAt.tuples y1 y2 (by omega) (eq_items ih hu z1 z2 p1 p2 e)
  rw [eqL_all e]
  have l1 : i1.toArray.size = d1.length := by rw [List.size_toArray, ← z1.length, p1.length]
  have l2 : i2.toArray.size = d2.length := by rw [List.size_toArray, ← z2.length, p2.length]
  rw [l1, l2] at q
  exact q
theorem ne_lsts {n : Nat} (ih : EqIH G pl o H B s n) {A : Around} (hu : A.units + (n + 1) < cLine) {a1 a2 : Addr} {i1 i2 : List Value} {w1 w2 : List V} {d1 d2 : List D} {b : Bool} (y1 : s.heap.IsList a1 i1.toArray) (y2 : s.heap.IsList a2 i2.toArray) (z1 : Vals w1 i1) (z2 : Vals w2 i2)
    (p1 : Reps G pl H B w1 d1) (p2 : Reps G pl H B w2 d2) (e : eqL n d1 d2 = some b) : SeqAt.RcNeAt A s (.ref a1) (.ref a2) (!b) := by
  have l1 : i1.toArray.size = d1.length := by rw [List.size_toArray, ← z1.length, p1.length]
  have l2 : i2.toArray.size = d2.length := by rw [List.size_toArray, ← z2.length, p2.length]
  by_cases hl : d1.length = d2.length
  · have q := SeqAt.RcNeAt.lists y1 y2 (by rw [l1, l2, hl]) (by omega) (eq_items ih hu z1 z2 p1 p2 e)
    rw [eqL_all e, hl]
    rw [l1, hl] at q
    simpa using q
  · rw [eqL_len e hl]
    exact SeqAt.RcNeAt.lists_lengths y1 y2 (by rw [l1, l2]; simpa using hl) (by omega)
theorem eqAtOf (I : Inv X pins σ H s) (hK : X.K = G.K) {n : Nat} (ih : ∀ k, n = k + 1 → EqIH G pl o H B s k) {A : Around} {dx dy : D} {x y : V} {v u : Value} {b : Bool} (hu : A.units + n < cLine) (e : eqD n dx dy = some b) (hx : RT G pl o H B x dx) (hy : RT G pl o H B y dy) (rx : RelV x v) (ry : RelV y u) : SeqAt.EqAt A s v u b := by
  cases dx with
  | non =>
    cases dy with
    | non =>
      obtain rfl := hx.non; obtain rfl : v = Value.none := rx
      obtain rfl := hy.non; obtain rfl : u = Value.none := ry
      simp only [eqD, Option.some.injEq] at e
      subst e
      exact SeqAt.EqAt.same _
    | bl b2 =>
      obtain rfl := hx.non; obtain rfl : v = Value.none := rx
      obtain rfl := hy.bl; obtain rfl : u = Value.bool _ := ry
      simp only [eqD, Option.some.injEq] at e
      subst e
      exact SeqAt.EqAt.none_bool _
    | int j2 =>
      obtain rfl := hx.non; obtain rfl : v = Value.none := rx
      obtain rfl := hy.int; obtain ⟨ty, rfl⟩ := ry
      simp only [eqD, Option.some.injEq] at e
      subst e
      exact SeqAt.EqAt.none_int _ _
    | str s2 =>
      obtain rfl := hx.non; obtain rfl : v = Value.none := rx
      obtain rfl := hy.str; obtain ⟨ty, rfl⟩ := ry
      simp only [eqD, Option.some.injEq] at e
      subst e
      exact SeqAt.EqAt.none_str _ _
    | tup d2 =>
      cases n with
      | zero => simp [eqD] at e
      | succ n =>
        obtain rfl := hx.non; obtain rfl : v = Value.none := rx
        obtain ⟨ay, wy, rfl, qy, py⟩ := hy.tup; obtain rfl : u = Value.ref ay := ry; obtain ⟨iy, zy, yy⟩ := rd_tup I hK qy
        simp only [eqD, Option.some.injEq] at e
        subst e
        exact SeqAt.EqAt.none_tuple yy (by omega)
    | lst d2 =>
      cases n with
      | zero => simp [eqD] at e
      | succ n =>
        obtain rfl := hx.non; obtain rfl : v = Value.none := rx
        obtain ⟨ay, wy, rfl, qy, py⟩ := hy.lst; obtain rfl : u = Value.ref ay := ry; obtain ⟨iy, zy, yy⟩ := rd_lst I qy
        simp only [eqD, Option.some.injEq] at e
        subst e
        exact SeqAt.EqAt.none_list yy (by omega)
    | _ => cases n <;> simp [eqD] at e
  | bl b1 =>
    cases dy with
    | non =>
      obtain rfl := hx.bl; obtain rfl : v = Value.bool _ := rx
      obtain rfl := hy.non; obtain rfl : u = Value.none := ry
      simp only [eqD, Option.some.injEq] at e
      subst e
      exact SeqAt.EqAt.bool_none _
    | bl b2 =>
      obtain rfl := hx.bl; obtain rfl : v = Value.bool _ := rx
      obtain rfl := hy.bl; obtain rfl : u = Value.bool _ := ry
      simp only [eqD, Option.some.injEq] at e
      subst e
      exact SeqAt.EqAt.bool_bool _ _
    | int j2 =>
      obtain rfl := hx.bl; obtain rfl : v = Value.bool _ := rx
      obtain rfl := hy.int; obtain ⟨ty, rfl⟩ := ry
      simp only [eqD, Option.some.injEq] at e
      subst e
      exact SeqAt.EqAt.bool_int _ _ _
    | str s2 =>
      obtain rfl := hx.bl; obtain rfl : v = Value.bool _ := rx
      obtain rfl := hy.str; obtain ⟨ty, rfl⟩ := ry
      simp only [eqD, Option.some.injEq] at e
      subst e
      exact SeqAt.EqAt.bool_str _ _ _
    | tup d2 =>
      cases n with
      | zero => simp [eqD] at e
      | succ n =>
        obtain rfl := hx.bl; obtain rfl : v = Value.bool _ := rx
        obtain ⟨ay, wy, rfl, qy, py⟩ := hy.tup; obtain rfl : u = Value.ref ay := ry; obtain ⟨iy, zy, yy⟩ := rd_tup I hK qy
        simp only [eqD, Option.some.injEq] at e
        subst e
        exact SeqAt.EqAt.bool_tuple _ yy (by omega)
    | lst d2 =>
      cases n with
      | zero => simp [eqD] at e
      | succ n =>
        obtain rfl := hx.bl; obtain rfl : v = Value.bool _ := rx
        obtain ⟨ay, wy, rfl, qy, py⟩ := hy.lst; obtain rfl : u = Value.ref ay := ry; obtain ⟨iy, zy, yy⟩ := rd_lst I qy
        simp only [eqD, Option.some.injEq] at e
        subst e
        exact SeqAt.EqAt.bool_list _ yy (by omega)
    | _ => cases n <;> simp [eqD] at e
  | int j1 =>
    cases dy with
    | non =>
      obtain rfl := hx.int; obtain ⟨tx, rfl⟩ := rx
      obtain rfl := hy.non; obtain rfl : u = Value.none := ry
      simp only [eqD, Option.some.injEq] at e
      subst e
      exact SeqAt.EqAt.int_none _ _
    | bl b2 =>
      obtain rfl := hx.int; obtain ⟨tx, rfl⟩ := rx
      obtain rfl := hy.bl; obtain rfl : u = Value.bool _ := ry
      simp only [eqD, Option.some.injEq] at e
      subst e
      exact SeqAt.EqAt.int_bool _ _ _
    | int j2 =>
      obtain rfl := hx.int; obtain ⟨tx, rfl⟩ := rx
      obtain rfl := hy.int; obtain ⟨ty, rfl⟩ := ry
      simp only [eqD, Option.some.injEq] at e
      subst e
      exact SeqAt.EqAt.int_int _ _ _ _
    | str s2 =>
      obtain rfl := hx.int; obtain ⟨tx, rfl⟩ := rx
      obtain rfl := hy.str; obtain ⟨ty, rfl⟩ := ry
      simp only [eqD, Option.some.injEq] at e
      subst e
      exact SeqAt.EqAt.int_str _ _ _ _
    | tup d2 =>
      cases n with
      | zero => simp [eqD] at e
      | succ n =>
        obtain rfl := hx.int; obtain ⟨tx, rfl⟩ := rx
        obtain ⟨ay, wy, rfl, qy, py⟩ := hy.tup; obtain rfl : u = Value.ref ay := ry; obtain ⟨iy, zy, yy⟩ := rd_tup I hK qy
        simp only [eqD, Option.some.injEq] at e
        subst e
        exact SeqAt.EqAt.int_tuple _ _ yy (by omega)
    | lst d2 =>
      cases n with
      | zero => simp [eqD] at e
      | succ n =>
        obtain rfl := hx.int; obtain ⟨tx, rfl⟩ := rx
        obtain ⟨ay, wy, rfl, qy, py⟩ := hy.lst; obtain rfl : u = Value.ref ay := ry; obtain ⟨iy, zy, yy⟩ := rd_lst I qy
        simp only [eqD, Option.some.injEq] at e
        subst e
        exact SeqAt.EqAt.int_list _ _ yy (by omega)
    | _ => cases n <;> simp [eqD] at e
  | str s1 =>
    cases dy with
    | non =>
      obtain rfl := hx.str; obtain ⟨tx, rfl⟩ := rx
      obtain rfl := hy.non; obtain rfl : u = Value.none := ry
      simp only [eqD, Option.some.injEq] at e
      subst e
      exact SeqAt.EqAt.str_none _ _
    | bl b2 =>
      obtain rfl := hx.str; obtain ⟨tx, rfl⟩ := rx
      obtain rfl := hy.bl; obtain rfl : u = Value.bool _ := ry
      simp only [eqD, Option.some.injEq] at e
      subst e
      exact SeqAt.EqAt.str_bool _ _ _
    | int j2 =>
      obtain rfl := hx.str; obtain ⟨tx, rfl⟩ := rx
      obtain rfl := hy.int; obtain ⟨ty, rfl⟩ := ry
      simp only [eqD, Option.some.injEq] at e
      subst e
      exact SeqAt.EqAt.str_int _ _ _ _
    | str s2 =>
      obtain rfl := hx.str; obtain ⟨tx, rfl⟩ := rx
      obtain rfl := hy.str; obtain ⟨ty, rfl⟩ := ry
      simp only [eqD, Option.some.injEq] at e
      subst e
      rw [← txt_beq]
      exact SeqAt.EqAt.str_str _ _ _ _
    | tup d2 =>
      cases n with
      | zero => simp [eqD] at e
      | succ n =>
        obtain rfl := hx.str; obtain ⟨tx, rfl⟩ := rx
        obtain ⟨ay, wy, rfl, qy, py⟩ := hy.tup; obtain rfl : u = Value.ref ay := ry; obtain ⟨iy, zy, yy⟩ := rd_tup I hK qy
        simp only [eqD, Option.some.injEq] at e
        subst e
        exact SeqAt.EqAt.str_tuple _ _ yy (by omega)
    | lst d2 =>
      cases n with
      | zero => simp [eqD] at e
      | succ n =>
        obtain rfl := hx.str; obtain ⟨tx, rfl⟩ := rx
        obtain ⟨ay, wy, rfl, qy, py⟩ := hy.lst; obtain rfl : u = Value.ref ay := ry; obtain ⟨iy, zy, yy⟩ := rd_lst I qy
        simp only [eqD, Option.some.injEq] at e
        subst e
        exact SeqAt.EqAt.str_list _ _ yy (by omega)
    | _ => cases n <;> simp [eqD] at e
  | tup d1 =>
    cases dy with
    | non =>
      cases n with
      | zero => simp [eqD] at e
      | succ n =>
        obtain ⟨ax, wx, rfl, qx, px⟩ := hx.tup; obtain rfl : v = Value.ref ax := rx; obtain ⟨ix, zx, yx⟩ := rd_tup I hK qx
        obtain rfl := hy.non; obtain rfl : u = Value.none := ry
        simp only [eqD, Option.some.injEq] at e
        subst e
        exact SeqAt.EqAt.tuple_none yx (by omega)
    | bl b2 =>
      cases n with
      | zero => simp [eqD] at e
      | succ n =>
        obtain ⟨ax, wx, rfl, qx, px⟩ := hx.tup; obtain rfl : v = Value.ref ax := rx; obtain ⟨ix, zx, yx⟩ := rd_tup I hK qx
        obtain rfl := hy.bl; obtain rfl : u = Value.bool _ := ry
        simp only [eqD, Option.some.injEq] at e
        subst e
        exact SeqAt.EqAt.tuple_bool _ yx (by omega)
    | int j2 =>
      cases n with
      | zero => simp [eqD] at e
      | succ n =>
        obtain ⟨ax, wx, rfl, qx, px⟩ := hx.tup; obtain rfl : v = Value.ref ax := rx; obtain ⟨ix, zx, yx⟩ := rd_tup I hK qx
        obtain rfl := hy.int; obtain ⟨ty, rfl⟩ := ry
        simp only [eqD, Option.some.injEq] at e
        subst e
        exact SeqAt.EqAt.tuple_int _ _ yx (by omega)
    | str s2 =>
      cases n with
      | zero => simp [eqD] at e
      | succ n =>
        obtain ⟨ax, wx, rfl, qx, px⟩ := hx.tup; obtain rfl : v = Value.ref ax := rx; obtain ⟨ix, zx, yx⟩ := rd_tup I hK qx
        obtain rfl := hy.str; obtain ⟨ty, rfl⟩ := ry
        simp only [eqD, Option.some.injEq] at e
        subst e
        exact SeqAt.EqAt.tuple_str _ _ yx (by omega)
    | tup d2 =>
      cases n with
      | zero => simp [eqD] at e
      | succ n =>
        obtain ⟨ax, wx, rfl, qx, px⟩ := hx.tup; obtain rfl : v = Value.ref ax := rx; obtain ⟨ix, zx, yx⟩ := rd_tup I hK qx
        obtain ⟨ay, wy, rfl, qy, py⟩ := hy.tup; obtain rfl : u = Value.ref ay := ry; obtain ⟨iy, zy, yy⟩ := rd_tup I hK qy
        simp only [eqD] at e
        by_cases hne : ax = ay
        · subst hne
          rw [rep_same (pl := pl) (o := o) (B := B) I hK (n + 1) (.tup d1) (.tup d2) b (.ref ax) hx hy (by simp only [eqD]; exact e)]
          exact SeqAt.EqAt.same _
        · exact SeqAt.EqAt.of_refs hne (rc_tups (ih n rfl) hu yx yy zx zy px py e)
    | lst d2 =>
      cases n with
      | zero => simp [eqD] at e
      | succ n =>
        obtain ⟨ax, wx, rfl, qx, px⟩ := hx.tup; obtain rfl : v = Value.ref ax := rx; obtain ⟨ix, zx, yx⟩ := rd_tup I hK qx
        obtain ⟨ay, wy, rfl, qy, py⟩ := hy.lst; obtain rfl : u = Value.ref ay := ry; obtain ⟨iy, zy, yy⟩ := rd_lst I qy
        simp only [eqD, Option.some.injEq] at e
        subst e
        exact SeqAt.EqAt.tuple_list yx yy (by omega)
    | _ => cases n <;> simp [eqD] at e
  | lst d1 =>
    cases dy with
    | non =>
      cases n with
      | zero => simp [eqD] at e
      | succ n =>
        obtain ⟨ax, wx, rfl, qx, px⟩ := hx.lst; obtain rfl : v = Value.ref ax := rx; obtain ⟨ix, zx, yx⟩ := rd_lst I qx
        obtain rfl := hy.non; obtain rfl : u = Value.none := ry
        simp only [eqD, Option.some.injEq] at e
        subst e
        exact SeqAt.EqAt.list_none yx (by omega)
    | bl b2 =>
      cases n with
      | zero => simp [eqD] at e
      | succ n =>
        obtain ⟨ax, wx, rfl, qx, px⟩ := hx.lst; obtain rfl : v = Value.ref ax := rx; obtain ⟨ix, zx, yx⟩ := rd_lst I qx
        obtain rfl := hy.bl; obtain rfl : u = Value.bool _ := ry
        simp only [eqD, Option.some.injEq] at e
        subst e
        exact SeqAt.EqAt.list_bool _ yx (by omega)
    | int j2 =>
      cases n with
      | zero => simp [eqD] at e
      | succ n =>
        obtain ⟨ax, wx, rfl, qx, px⟩ := hx.lst; obtain rfl : v = Value.ref ax := rx; obtain ⟨ix, zx, yx⟩ := rd_lst I qx
        obtain rfl := hy.int; obtain ⟨ty, rfl⟩ := ry
        simp only [eqD, Option.some.injEq] at e
        subst e
        exact SeqAt.EqAt.list_int _ _ yx (by omega)
    | str s2 =>
      cases n with
      | zero => simp [eqD] at e
      | succ n =>
        obtain ⟨ax, wx, rfl, qx, px⟩ := hx.lst; obtain rfl : v = Value.ref ax := rx; obtain ⟨ix, zx, yx⟩ := rd_lst I qx
        obtain rfl := hy.str; obtain ⟨ty, rfl⟩ := ry
        simp only [eqD, Option.some.injEq] at e
        subst e
        exact SeqAt.EqAt.list_str _ _ yx (by omega)
    | tup d2 =>
      cases n with
      | zero => simp [eqD] at e
      | succ n =>
        obtain ⟨ax, wx, rfl, qx, px⟩ := hx.lst; obtain rfl : v = Value.ref ax := rx; obtain ⟨ix, zx, yx⟩ := rd_lst I qx
        obtain ⟨ay, wy, rfl, qy, py⟩ := hy.tup; obtain rfl : u = Value.ref ay := ry; obtain ⟨iy, zy, yy⟩ := rd_tup I hK qy
        simp only [eqD, Option.some.injEq] at e
        subst e
        exact SeqAt.EqAt.list_tuple yx yy (by omega)
    | lst d2 =>
      cases n with
      | zero => simp [eqD] at e
      | succ n =>
        obtain ⟨ax, wx, rfl, qx, px⟩ := hx.lst; obtain rfl : v = Value.ref ax := rx; obtain ⟨ix, zx, yx⟩ := rd_lst I qx
        obtain ⟨ay, wy, rfl, qy, py⟩ := hy.lst; obtain rfl : u = Value.ref ay := ry; obtain ⟨iy, zy, yy⟩ := rd_lst I qy
        simp only [eqD] at e
        by_cases hne : ax = ay
        · subst hne
          rw [rep_same (pl := pl) (o := o) (B := B) I hK (n + 1) (.lst d1) (.lst d2) b (.ref ax) hx hy (by simp only [eqD]; exact e)]
          exact SeqAt.EqAt.same _
        · exact SeqAt.EqAt.of_refs hne (rc_lsts (ih n rfl) hu yx yy zx zy px py e)
    | _ => cases n <;> simp [eqD] at e
  | scr d1 =>
    cases dy with
    | lst d2 =>
      cases n with
      | zero => simp [eqD] at e
      | succ n =>
        obtain ⟨ax, wx, rfl, qx, px⟩ := hx.scr; obtain rfl : v = Value.ref ax := rx; obtain ⟨ix, zx, yx⟩ := rd_scr I hK qx
        obtain ⟨ay, wy, rfl, qy, py⟩ := hy.lst; obtain rfl : u = Value.ref ay := ry; obtain ⟨iy, zy, yy⟩ := rd_lst I qy
        simp only [eqD] at e
        by_cases hne : ax = ay
        · subst hne
          rw [rep_same (pl := pl) (o := o) (B := B) I hK (n + 1) (.scr d1) (.lst d2) b (.ref ax) hx hy (by simp only [eqD]; exact e)]
          exact SeqAt.EqAt.same _
        · exact SeqAt.EqAt.of_refs hne (rc_lsts (ih n rfl) hu yx yy zx zy px py e)
    | _ => cases n <;> simp [eqD] at e
  | _ => cases dy <;> cases n <;> simp [eqD] at e
theorem rcAtOf (I : Inv X pins σ H s) (hK : X.K = G.K) {n : Nat} (ih : ∀ k, n = k + 1 → EqIH G pl o H B s k) {A : Around} {dx dy : D} {x y : V} {v u : Value} {b : Bool} (hu : A.units + n < cLine) (e : eqD n dx dy = some b) (hx : RT G pl o H B x dx) (hy : RT G pl o H B y dy) (rx : RelV x v) (ry : RelV y u) : SeqAt.RcAt A s v u b := by
  cases dx with
  | non =>
    cases dy with
    | non =>
      obtain rfl := hx.non; obtain rfl : v = Value.none := rx
      obtain rfl := hy.non; obtain rfl : u = Value.none := ry
      simp only [eqD, Option.some.injEq] at e
      subst e
      exact SeqAt.RcAt.none_none
    | bl b2 =>
      obtain rfl := hx.non; obtain rfl : v = Value.none := rx
      obtain rfl := hy.bl; obtain rfl : u = Value.bool _ := ry
      simp only [eqD, Option.some.injEq] at e
      subst e
      exact SeqAt.RcAt.none_bool _
    | int j2 =>
      obtain rfl := hx.non; obtain rfl : v = Value.none := rx
      obtain rfl := hy.int; obtain ⟨ty, rfl⟩ := ry
      simp only [eqD, Option.some.injEq] at e
      subst e
      exact SeqAt.RcAt.none_int _ _
    | str s2 =>
      obtain rfl := hx.non; obtain rfl : v = Value.none := rx
      obtain rfl := hy.str; obtain ⟨ty, rfl⟩ := ry
      simp only [eqD, Option.some.injEq] at e
      subst e
      exact SeqAt.RcAt.none_str _ _
    | tup d2 =>
      cases n with
      | zero => simp [eqD] at e
      | succ n =>
        obtain rfl := hx.non; obtain rfl : v = Value.none := rx
        obtain ⟨ay, wy, rfl, qy, py⟩ := hy.tup; obtain rfl : u = Value.ref ay := ry; obtain ⟨iy, zy, yy⟩ := rd_tup I hK qy
        simp only [eqD, Option.some.injEq] at e
        subst e
        exact SeqAt.RcAt.none_tuple yy (by omega)
    | lst d2 =>
      cases n with
      | zero => simp [eqD] at e
      | succ n =>
        obtain rfl := hx.non; obtain rfl : v = Value.none := rx
        obtain ⟨ay, wy, rfl, qy, py⟩ := hy.lst; obtain rfl : u = Value.ref ay := ry; obtain ⟨iy, zy, yy⟩ := rd_lst I qy
        simp only [eqD, Option.some.injEq] at e
        subst e
        exact SeqAt.RcAt.none_list yy (by omega)
    | _ => cases n <;> simp [eqD] at e
  | bl b1 =>
    cases dy with
    | non =>
      obtain rfl := hx.bl; obtain rfl : v = Value.bool _ := rx
      obtain rfl := hy.non; obtain rfl : u = Value.none := ry
      simp only [eqD, Option.some.injEq] at e
      subst e
      exact SeqAt.RcAt.bool_none _
    | bl b2 =>
      obtain rfl := hx.bl; obtain rfl : v = Value.bool _ := rx
      obtain rfl := hy.bl; obtain rfl : u = Value.bool _ := ry
      simp only [eqD, Option.some.injEq] at e
      subst e
      exact SeqAt.RcAt.bool_bool _ _
    | int j2 =>
      obtain rfl := hx.bl; obtain rfl : v = Value.bool _ := rx
      obtain rfl := hy.int; obtain ⟨ty, rfl⟩ := ry
      simp only [eqD, Option.some.injEq] at e
      subst e
      exact SeqAt.RcAt.bool_int _ _ _
    | str s2 =>
      obtain rfl := hx.bl; obtain rfl : v = Value.bool _ := rx
      obtain rfl := hy.str; obtain ⟨ty, rfl⟩ := ry
      simp only [eqD, Option.some.injEq] at e
      subst e
      exact SeqAt.RcAt.bool_str _ _ _
    | tup d2 =>
      cases n with
      | zero => simp [eqD] at e
      | succ n =>
        obtain rfl := hx.bl; obtain rfl : v = Value.bool _ := rx
        obtain ⟨ay, wy, rfl, qy, py⟩ := hy.tup; obtain rfl : u = Value.ref ay := ry; obtain ⟨iy, zy, yy⟩ := rd_tup I hK qy
        simp only [eqD, Option.some.injEq] at e
        subst e
        exact SeqAt.RcAt.bool_tuple _ yy (by omega)
    | lst d2 =>
      cases n with
      | zero => simp [eqD] at e
      | succ n =>
        obtain rfl := hx.bl; obtain rfl : v = Value.bool _ := rx
        obtain ⟨ay, wy, rfl, qy, py⟩ := hy.lst; obtain rfl : u = Value.ref ay := ry; obtain ⟨iy, zy, yy⟩ := rd_lst I qy
        simp only [eqD, Option.some.injEq] at e
        subst e
        exact SeqAt.RcAt.bool_list _ yy (by omega)
    | _ => cases n <;> simp [eqD] at e
  | int j1 =>
    cases dy with
    | non =>
      obtain rfl := hx.int; obtain ⟨tx, rfl⟩ := rx
      obtain rfl := hy.non; obtain rfl : u = Value.none := ry
      simp only [eqD, Option.some.injEq] at e
      subst e
      exact SeqAt.RcAt.int_none _ _
    | bl b2 =>
      obtain rfl := hx.int; obtain ⟨tx, rfl⟩ := rx
      obtain rfl := hy.bl; obtain rfl : u = Value.bool _ := ry
      simp only [eqD, Option.some.injEq] at e
      subst e
      exact SeqAt.RcAt.int_bool _ _ _
    | int j2 =>
      obtain rfl := hx.int; obtain ⟨tx, rfl⟩ := rx
      obtain rfl := hy.int; obtain ⟨ty, rfl⟩ := ry
      simp only [eqD, Option.some.injEq] at e
      subst e
      exact SeqAt.RcAt.int_int _ _ _ _
    | str s2 =>
      obtain rfl := hx.int; obtain ⟨tx, rfl⟩ := rx
      obtain rfl := hy.str; obtain ⟨ty, rfl⟩ := ry
      simp only [eqD, Option.some.injEq] at e
      subst e
      exact SeqAt.RcAt.int_str _ _ _ _
    | tup d2 =>
      cases n with
      | zero => simp [eqD] at e
      | succ n =>
        obtain rfl := hx.int; obtain ⟨tx, rfl⟩ := rx
        obtain ⟨ay, wy, rfl, qy, py⟩ := hy.tup; obtain rfl : u = Value.ref ay := ry; obtain ⟨iy, zy, yy⟩ := rd_tup I hK qy
        simp only [eqD, Option.some.injEq] at e
        subst e
        exact SeqAt.RcAt.int_tuple _ _ yy (by omega)
    | lst d2 =>
      cases n with
      | zero => simp [eqD] at e
      | succ n =>
        obtain rfl := hx.int; obtain ⟨tx, rfl⟩ := rx
        obtain ⟨ay, wy, rfl, qy, py⟩ := hy.lst; obtain rfl : u = Value.ref ay := ry; obtain ⟨iy, zy, yy⟩ := rd_lst I qy
        simp only [eqD, Option.some.injEq] at e
        subst e
        exact SeqAt.RcAt.int_list _ _ yy (by omega)
    | _ => cases n <;> simp [eqD] at e
  | str s1 =>
    cases dy with
    | non =>
      obtain rfl := hx.str; obtain ⟨tx, rfl⟩ := rx
      obtain rfl := hy.non; obtain rfl : u = Value.none := ry
      simp only [eqD, Option.some.injEq] at e
      subst e
      exact SeqAt.RcAt.str_none _ _
    | bl b2 =>
      obtain rfl := hx.str; obtain ⟨tx, rfl⟩ := rx
      obtain rfl := hy.bl; obtain rfl : u = Value.bool _ := ry
      simp only [eqD, Option.some.injEq] at e
      subst e
      exact SeqAt.RcAt.str_bool _ _ _
    | int j2 =>
      obtain rfl := hx.str; obtain ⟨tx, rfl⟩ := rx
      obtain rfl := hy.int; obtain ⟨ty, rfl⟩ := ry
      simp only [eqD, Option.some.injEq] at e
      subst e
      exact SeqAt.RcAt.str_int _ _ _ _
    | str s2 =>
      obtain rfl := hx.str; obtain ⟨tx, rfl⟩ := rx
      obtain rfl := hy.str; obtain ⟨ty, rfl⟩ := ry
      simp only [eqD, Option.some.injEq] at e
      subst e
      rw [← txt_beq]
      exact SeqAt.RcAt.str_str _ _ _ _
    | tup d2 =>
      cases n with
      | zero => simp [eqD] at e
      | succ n =>
        obtain rfl := hx.str; obtain ⟨tx, rfl⟩ := rx
        obtain ⟨ay, wy, rfl, qy, py⟩ := hy.tup; obtain rfl : u = Value.ref ay := ry; obtain ⟨iy, zy, yy⟩ := rd_tup I hK qy
        simp only [eqD, Option.some.injEq] at e
        subst e
        exact SeqAt.RcAt.str_tuple _ _ yy (by omega)
    | lst d2 =>
      cases n with
      | zero => simp [eqD] at e
      | succ n =>
        obtain rfl := hx.str; obtain ⟨tx, rfl⟩ := rx
        obtain ⟨ay, wy, rfl, qy, py⟩ := hy.lst; obtain rfl : u = Value.ref ay := ry; obtain ⟨iy, zy, yy⟩ := rd_lst I qy
        simp only [eqD, Option.some.injEq] at e
        subst e
        exact SeqAt.RcAt.str_list _ _ yy (by omega)
    | _ => cases n <;> simp [eqD] at e
  | tup d1 =>
    cases dy with
    | non =>
      cases n with
      | zero => simp [eqD] at e
      | succ n =>
        obtain ⟨ax, wx, rfl, qx, px⟩ := hx.tup; obtain rfl : v = Value.ref ax := rx; obtain ⟨ix, zx, yx⟩ := rd_tup I hK qx
        obtain rfl := hy.non; obtain rfl : u = Value.none := ry
        simp only [eqD, Option.some.injEq] at e
        subst e
        exact SeqAt.RcAt.tuple_none yx (by omega)
    | bl b2 =>
      cases n with
      | zero => simp [eqD] at e
      | succ n =>
        obtain ⟨ax, wx, rfl, qx, px⟩ := hx.tup; obtain rfl : v = Value.ref ax := rx; obtain ⟨ix, zx, yx⟩ := rd_tup I hK qx
        obtain rfl := hy.bl; obtain rfl : u = Value.bool _ := ry
        simp only [eqD, Option.some.injEq] at e
        subst e
        exact SeqAt.RcAt.tuple_bool _ yx (by omega)
    | int j2 =>
      cases n with
      | zero => simp [eqD] at e
      | succ n =>
        obtain ⟨ax, wx, rfl, qx, px⟩ := hx.tup; obtain rfl : v = Value.ref ax := rx; obtain ⟨ix, zx, yx⟩ := rd_tup I hK qx
        obtain rfl := hy.int; obtain ⟨ty, rfl⟩ := ry
        simp only [eqD, Option.some.injEq] at e
        subst e
        exact SeqAt.RcAt.tuple_int _ _ yx (by omega)
    | str s2 =>
      cases n with
      | zero => simp [eqD] at e
      | succ n =>
        obtain ⟨ax, wx, rfl, qx, px⟩ := hx.tup; obtain rfl : v = Value.ref ax := rx; obtain ⟨ix, zx, yx⟩ := rd_tup I hK qx
        obtain rfl := hy.str; obtain ⟨ty, rfl⟩ := ry
        simp only [eqD, Option.some.injEq] at e
        subst e
        exact SeqAt.RcAt.tuple_str _ _ yx (by omega)
    | tup d2 =>
      cases n with
      | zero => simp [eqD] at e
      | succ n =>
        obtain ⟨ax, wx, rfl, qx, px⟩ := hx.tup; obtain rfl : v = Value.ref ax := rx; obtain ⟨ix, zx, yx⟩ := rd_tup I hK qx
        obtain ⟨ay, wy, rfl, qy, py⟩ := hy.tup; obtain rfl : u = Value.ref ay := ry; obtain ⟨iy, zy, yy⟩ := rd_tup I hK qy
        simp only [eqD] at e
        exact rc_tups (ih n rfl) hu yx yy zx zy px py e
    | lst d2 =>
      cases n with
      | zero => simp [eqD] at e
      | succ n =>
        obtain ⟨ax, wx, rfl, qx, px⟩ := hx.tup; obtain rfl : v = Value.ref ax := rx; obtain ⟨ix, zx, yx⟩ := rd_tup I hK qx
        obtain ⟨ay, wy, rfl, qy, py⟩ := hy.lst; obtain rfl : u = Value.ref ay := ry; obtain ⟨iy, zy, yy⟩ := rd_lst I qy
        simp only [eqD, Option.some.injEq] at e
        subst e
        exact SeqAt.RcAt.tuple_list yx yy (by omega)
    | _ => cases n <;> simp [eqD] at e
  | lst d1 =>
    cases dy with
    | non =>
      cases n with
      | zero => simp [eqD] at e
      | succ n =>
        obtain ⟨ax, wx, rfl, qx, px⟩ := hx.lst; obtain rfl : v = Value.ref ax := rx; obtain ⟨ix, zx, yx⟩ := rd_lst I qx
        obtain rfl := hy.non; obtain rfl : u = Value.none := ry
        simp only [eqD, Option.some.injEq] at e
        subst e
        exact SeqAt.RcAt.list_none yx (by omega)
    | bl b2 =>
      cases n with
      | zero => simp [eqD] at e
      | succ n =>
        obtain ⟨ax, wx, rfl, qx, px⟩ := hx.lst; obtain rfl : v = Value.ref ax := rx; obtain ⟨ix, zx, yx⟩ := rd_lst I qx
        obtain rfl := hy.bl; obtain rfl : u = Value.bool _ := ry
        simp only [eqD, Option.some.injEq] at e
        subst e
        exact SeqAt.RcAt.list_bool _ yx (by omega)
    | int j2 =>
      cases n with
      | zero => simp [eqD] at e
      | succ n =>
        obtain ⟨ax, wx, rfl, qx, px⟩ := hx.lst; obtain rfl : v = Value.ref ax := rx; obtain ⟨ix, zx, yx⟩ := rd_lst I qx
        obtain rfl := hy.int; obtain ⟨ty, rfl⟩ := ry
        simp only [eqD, Option.some.injEq] at e
        subst e
        exact SeqAt.RcAt.list_int _ _ yx (by omega)
    | str s2 =>
      cases n with
      | zero => simp [eqD] at e
      | succ n =>
        obtain ⟨ax, wx, rfl, qx, px⟩ := hx.lst; obtain rfl : v = Value.ref ax := rx; obtain ⟨ix, zx, yx⟩ := rd_lst I qx
        obtain rfl := hy.str; obtain ⟨ty, rfl⟩ := ry
        simp only [eqD, Option.some.injEq] at e
        subst e
        exact SeqAt.RcAt.list_str _ _ yx (by omega)
    | tup d2 =>
      cases n with
      | zero => simp [eqD] at e
      | succ n =>
        obtain ⟨ax, wx, rfl, qx, px⟩ := hx.lst; obtain rfl : v = Value.ref ax := rx; obtain ⟨ix, zx, yx⟩ := rd_lst I qx
        obtain ⟨ay, wy, rfl, qy, py⟩ := hy.tup; obtain rfl : u = Value.ref ay := ry; obtain ⟨iy, zy, yy⟩ := rd_tup I hK qy
        simp only [eqD, Option.some.injEq] at e
        subst e
        exact SeqAt.RcAt.list_tuple yx yy (by omega)
    | lst d2 =>
      cases n with
      | zero => simp [eqD] at e
      | succ n =>
        obtain ⟨ax, wx, rfl, qx, px⟩ := hx.lst; obtain rfl : v = Value.ref ax := rx; obtain ⟨ix, zx, yx⟩ := rd_lst I qx
        obtain ⟨ay, wy, rfl, qy, py⟩ := hy.lst; obtain rfl : u = Value.ref ay := ry; obtain ⟨iy, zy, yy⟩ := rd_lst I qy
        simp only [eqD] at e
        exact rc_lsts (ih n rfl) hu yx yy zx zy px py e
    | _ => cases n <;> simp [eqD] at e
  | scr d1 =>
    cases dy with
    | lst d2 =>
      cases n with
      | zero => simp [eqD] at e
      | succ n =>
        obtain ⟨ax, wx, rfl, qx, px⟩ := hx.scr; obtain rfl : v = Value.ref ax := rx; obtain ⟨ix, zx, yx⟩ := rd_scr I hK qx
        obtain ⟨ay, wy, rfl, qy, py⟩ := hy.lst; obtain rfl : u = Value.ref ay := ry; obtain ⟨iy, zy, yy⟩ := rd_lst I qy
        simp only [eqD] at e
        exact rc_lsts (ih n rfl) hu yx yy zx zy px py e
    | _ => cases n <;> simp [eqD] at e
  | _ => cases dy <;> cases n <;> simp [eqD] at e
theorem neAtOf (I : Inv X pins σ H s) (hK : X.K = G.K) {n : Nat} (ih : ∀ k, n = k + 1 → EqIH G pl o H B s k) {A : Around} {dx dy : D} {x y : V} {v u : Value} {b : Bool} (hu : A.units + n < cLine) (e : eqD n dx dy = some b) (hx : RT G pl o H B x dx) (hy : RT G pl o H B y dy) (rx : RelV x v) (ry : RelV y u) : SeqAt.RcNeAt A s v u (!b) := by
  cases dx with
  | non =>
    cases dy with
    | non =>
      obtain rfl := hx.non; obtain rfl : v = Value.none := rx
      obtain rfl := hy.non; obtain rfl : u = Value.none := ry
      simp only [eqD, Option.some.injEq] at e
      subst e
      exact SeqAt.RcNeAt.none_none
    | bl b2 =>
      obtain rfl := hx.non; obtain rfl : v = Value.none := rx
      obtain rfl := hy.bl; obtain rfl : u = Value.bool _ := ry
      simp only [eqD, Option.some.injEq] at e
      subst e
      exact SeqAt.RcNeAt.none_bool _
    | int j2 =>
      obtain rfl := hx.non; obtain rfl : v = Value.none := rx
      obtain rfl := hy.int; obtain ⟨ty, rfl⟩ := ry
      simp only [eqD, Option.some.injEq] at e
      subst e
      exact SeqAt.RcNeAt.none_int _ _
    | str s2 =>
      obtain rfl := hx.non; obtain rfl : v = Value.none := rx
      obtain rfl := hy.str; obtain ⟨ty, rfl⟩ := ry
      simp only [eqD, Option.some.injEq] at e
      subst e
      exact SeqAt.RcNeAt.none_str _ _
    | tup d2 =>
      cases n with
      | zero => simp [eqD] at e
      | succ n =>
        obtain rfl := hx.non; obtain rfl : v = Value.none := rx
        obtain ⟨ay, wy, rfl, qy, py⟩ := hy.tup; obtain rfl : u = Value.ref ay := ry; obtain ⟨iy, zy, yy⟩ := rd_tup I hK qy
        simp only [eqD, Option.some.injEq] at e
        subst e
        exact SeqAt.RcNeAt.none_tuple yy (by omega)
    | lst d2 =>
      cases n with
      | zero => simp [eqD] at e
      | succ n =>
        obtain rfl := hx.non; obtain rfl : v = Value.none := rx
        obtain ⟨ay, wy, rfl, qy, py⟩ := hy.lst; obtain rfl : u = Value.ref ay := ry; obtain ⟨iy, zy, yy⟩ := rd_lst I qy
        simp only [eqD, Option.some.injEq] at e
        subst e
        exact SeqAt.RcNeAt.none_list yy (by omega)
    | _ => cases n <;> simp [eqD] at e
  | bl b1 =>
    cases dy with
    | non =>
      obtain rfl := hx.bl; obtain rfl : v = Value.bool _ := rx
      obtain rfl := hy.non; obtain rfl : u = Value.none := ry
      simp only [eqD, Option.some.injEq] at e
      subst e
      exact SeqAt.RcNeAt.bool_none _
    | bl b2 =>
      obtain rfl := hx.bl; obtain rfl : v = Value.bool _ := rx
      obtain rfl := hy.bl; obtain rfl : u = Value.bool _ := ry
      simp only [eqD, Option.some.injEq] at e
      subst e
      exact SeqAt.RcNeAt.bool_bool _ _
    | int j2 =>
      obtain rfl := hx.bl; obtain rfl : v = Value.bool _ := rx
      obtain rfl := hy.int; obtain ⟨ty, rfl⟩ := ry
      simp only [eqD, Option.some.injEq] at e
      subst e
      exact SeqAt.RcNeAt.bool_int _ _ _
    | str s2 =>
      obtain rfl := hx.bl; obtain rfl : v = Value.bool _ := rx
      obtain rfl := hy.str; obtain ⟨ty, rfl⟩ := ry
      simp only [eqD, Option.some.injEq] at e
      subst e
      exact SeqAt.RcNeAt.bool_str _ _ _
    | tup d2 =>
      cases n with
      | zero => simp [eqD] at e
      | succ n =>
        obtain rfl := hx.bl; obtain rfl : v = Value.bool _ := rx
        obtain ⟨ay, wy, rfl, qy, py⟩ := hy.tup; obtain rfl : u = Value.ref ay := ry; obtain ⟨iy, zy, yy⟩ := rd_tup I hK qy
        simp only [eqD, Option.some.injEq] at e
        subst e
        exact SeqAt.RcNeAt.bool_tuple _ yy (by omega)
    | lst d2 =>
      cases n with
      | zero => simp [eqD] at e
      | succ n =>
        obtain rfl := hx.bl; obtain rfl : v = Value.bool _ := rx
        obtain ⟨ay, wy, rfl, qy, py⟩ := hy.lst; obtain rfl : u = Value.ref ay := ry; obtain ⟨iy, zy, yy⟩ := rd_lst I qy
        simp only [eqD, Option.some.injEq] at e
        subst e
        exact SeqAt.RcNeAt.bool_list _ yy (by omega)
    | _ => cases n <;> simp [eqD] at e
  | int j1 =>
    cases dy with
    | non =>
      obtain rfl := hx.int; obtain ⟨tx, rfl⟩ := rx
      obtain rfl := hy.non; obtain rfl : u = Value.none := ry
      simp only [eqD, Option.some.injEq] at e
      subst e
      exact SeqAt.RcNeAt.int_none _ _
    | bl b2 =>
      obtain rfl := hx.int; obtain ⟨tx, rfl⟩ := rx
      obtain rfl := hy.bl; obtain rfl : u = Value.bool _ := ry
      simp only [eqD, Option.some.injEq] at e
      subst e
      exact SeqAt.RcNeAt.int_bool _ _ _
    | int j2 =>
      obtain rfl := hx.int; obtain ⟨tx, rfl⟩ := rx
      obtain rfl := hy.int; obtain ⟨ty, rfl⟩ := ry
      simp only [eqD, Option.some.injEq] at e
      subst e
      exact SeqAt.RcNeAt.int_int _ _ _ _
    | str s2 =>
      obtain rfl := hx.int; obtain ⟨tx, rfl⟩ := rx
      obtain rfl := hy.str; obtain ⟨ty, rfl⟩ := ry
      simp only [eqD, Option.some.injEq] at e
      subst e
      exact SeqAt.RcNeAt.int_str _ _ _ _
    | tup d2 =>
      cases n with
      | zero => simp [eqD] at e
      | succ n =>
        obtain rfl := hx.int; obtain ⟨tx, rfl⟩ := rx
        obtain ⟨ay, wy, rfl, qy, py⟩ := hy.tup; obtain rfl : u = Value.ref ay := ry; obtain ⟨iy, zy, yy⟩ := rd_tup I hK qy
        simp only [eqD, Option.some.injEq] at e
        subst e
        exact SeqAt.RcNeAt.int_tuple _ _ yy (by omega)
    | lst d2 =>
      cases n with
      | zero => simp [eqD] at e
      | succ n =>
        obtain rfl := hx.int; obtain ⟨tx, rfl⟩ := rx
        obtain ⟨ay, wy, rfl, qy, py⟩ := hy.lst; obtain rfl : u = Value.ref ay := ry; obtain ⟨iy, zy, yy⟩ := rd_lst I qy
        simp only [eqD, Option.some.injEq] at e
        subst e
        exact SeqAt.RcNeAt.int_list _ _ yy (by omega)
    | _ => cases n <;> simp [eqD] at e
  | str s1 =>
    cases dy with
    | non =>
      obtain rfl := hx.str; obtain ⟨tx, rfl⟩ := rx
      obtain rfl := hy.non; obtain rfl : u = Value.none := ry
      simp only [eqD, Option.some.injEq] at e
      subst e
      exact SeqAt.RcNeAt.str_none _ _
    | bl b2 =>
      obtain rfl := hx.str; obtain ⟨tx, rfl⟩ := rx
      obtain rfl := hy.bl; obtain rfl : u = Value.bool _ := ry
      simp only [eqD, Option.some.injEq] at e
      subst e
      exact SeqAt.RcNeAt.str_bool _ _ _
    | int j2 =>
      obtain rfl := hx.str; obtain ⟨tx, rfl⟩ := rx
      obtain rfl := hy.int; obtain ⟨ty, rfl⟩ := ry
      simp only [eqD, Option.some.injEq] at e
      subst e
      exact SeqAt.RcNeAt.str_int _ _ _ _
    | str s2 =>
      obtain rfl := hx.str; obtain ⟨tx, rfl⟩ := rx
      obtain rfl := hy.str; obtain ⟨ty, rfl⟩ := ry
      simp only [eqD, Option.some.injEq] at e
      subst e
      rw [← txt_beq]
      exact SeqAt.RcNeAt.str_str _ _ _ _
    | tup d2 =>
      cases n with
      | zero => simp [eqD] at e
      | succ n =>
        obtain rfl := hx.str; obtain ⟨tx, rfl⟩ := rx
        obtain ⟨ay, wy, rfl, qy, py⟩ := hy.tup; obtain rfl : u = Value.ref ay := ry; obtain ⟨iy, zy, yy⟩ := rd_tup I hK qy
        simp only [eqD, Option.some.injEq] at e
        subst e
        exact SeqAt.RcNeAt.str_tuple _ _ yy (by omega)
    | lst d2 =>
      cases n with
      | zero => simp [eqD] at e
      | succ n =>
        obtain rfl := hx.str; obtain ⟨tx, rfl⟩ := rx
        obtain ⟨ay, wy, rfl, qy, py⟩ := hy.lst; obtain rfl : u = Value.ref ay := ry; obtain ⟨iy, zy, yy⟩ := rd_lst I qy
        simp only [eqD, Option.some.injEq] at e
        subst e
        exact SeqAt.RcNeAt.str_list _ _ yy (by omega)
    | _ => cases n <;> simp [eqD] at e
  | tup d1 =>
    cases dy with
    | non =>
      cases n with
      | zero => simp [eqD] at e
      | succ n =>
        obtain ⟨ax, wx, rfl, qx, px⟩ := hx.tup; obtain rfl : v = Value.ref ax := rx; obtain ⟨ix, zx, yx⟩ := rd_tup I hK qx
        obtain rfl := hy.non; obtain rfl : u = Value.none := ry
        simp only [eqD, Option.some.injEq] at e
        subst e
        exact SeqAt.RcNeAt.tuple_none yx (by omega)
    | bl b2 =>
      cases n with
      | zero => simp [eqD] at e
      | succ n =>
        obtain ⟨ax, wx, rfl, qx, px⟩ := hx.tup; obtain rfl : v = Value.ref ax := rx; obtain ⟨ix, zx, yx⟩ := rd_tup I hK qx
        obtain rfl := hy.bl; obtain rfl : u = Value.bool _ := ry
        simp only [eqD, Option.some.injEq] at e
        subst e
        exact SeqAt.RcNeAt.tuple_bool _ yx (by omega)
    | int j2 =>
      cases n with
      | zero => simp [eqD] at e
      | succ n =>
        obtain ⟨ax, wx, rfl, qx, px⟩ := hx.tup; obtain rfl : v = Value.ref ax := rx; obtain ⟨ix, zx, yx⟩ := rd_tup I hK qx
        obtain rfl := hy.int; obtain ⟨ty, rfl⟩ := ry
        simp only [eqD, Option.some.injEq] at e
        subst e
        exact SeqAt.RcNeAt.tuple_int _ _ yx (by omega)
    | str s2 =>
      cases n with
      | zero => simp [eqD] at e
      | succ n =>
        obtain ⟨ax, wx, rfl, qx, px⟩ := hx.tup; obtain rfl : v = Value.ref ax := rx; obtain ⟨ix, zx, yx⟩ := rd_tup I hK qx
        obtain rfl := hy.str; obtain ⟨ty, rfl⟩ := ry
        simp only [eqD, Option.some.injEq] at e
        subst e
        exact SeqAt.RcNeAt.tuple_str _ _ yx (by omega)
    | tup d2 =>
      cases n with
      | zero => simp [eqD] at e
      | succ n =>
        obtain ⟨ax, wx, rfl, qx, px⟩ := hx.tup; obtain rfl : v = Value.ref ax := rx; obtain ⟨ix, zx, yx⟩ := rd_tup I hK qx
        obtain ⟨ay, wy, rfl, qy, py⟩ := hy.tup; obtain rfl : u = Value.ref ay := ry; obtain ⟨iy, zy, yy⟩ := rd_tup I hK qy
        simp only [eqD] at e
        exact ne_tups (ih n rfl) hu yx yy zx zy px py e
    | lst d2 =>
      cases n with
      | zero => simp [eqD] at e
      | succ n =>
        obtain ⟨ax, wx, rfl, qx, px⟩ := hx.tup; obtain rfl : v = Value.ref ax := rx; obtain ⟨ix, zx, yx⟩ := rd_tup I hK qx
        obtain ⟨ay, wy, rfl, qy, py⟩ := hy.lst; obtain rfl : u = Value.ref ay := ry; obtain ⟨iy, zy, yy⟩ := rd_lst I qy
        simp only [eqD, Option.some.injEq] at e
        subst e
        exact SeqAt.RcNeAt.tuple_list yx yy (by omega)
    | _ => cases n <;> simp [eqD] at e
  | lst d1 =>
    cases dy with
    | non =>
      cases n with
      | zero => simp [eqD] at e
      | succ n =>
        obtain ⟨ax, wx, rfl, qx, px⟩ := hx.lst; obtain rfl : v = Value.ref ax := rx; obtain ⟨ix, zx, yx⟩ := rd_lst I qx
        obtain rfl := hy.non; obtain rfl : u = Value.none := ry
        simp only [eqD, Option.some.injEq] at e
        subst e
        exact SeqAt.RcNeAt.list_none yx (by omega)
    | bl b2 =>
      cases n with
      | zero => simp [eqD] at e
      | succ n =>
        obtain ⟨ax, wx, rfl, qx, px⟩ := hx.lst; obtain rfl : v = Value.ref ax := rx; obtain ⟨ix, zx, yx⟩ := rd_lst I qx
        obtain rfl := hy.bl; obtain rfl : u = Value.bool _ := ry
        simp only [eqD, Option.some.injEq] at e
        subst e
        exact SeqAt.RcNeAt.list_bool _ yx (by omega)
    | int j2 =>
      cases n with
      | zero => simp [eqD] at e
      | succ n =>
        obtain ⟨ax, wx, rfl, qx, px⟩ := hx.lst; obtain rfl : v = Value.ref ax := rx; obtain ⟨ix, zx, yx⟩ := rd_lst I qx
        obtain rfl := hy.int; obtain ⟨ty, rfl⟩ := ry
        simp only [eqD, Option.some.injEq] at e
        subst e
        exact SeqAt.RcNeAt.list_int _ _ yx (by omega)
    | str s2 =>
      cases n with
      | zero => simp [eqD] at e
      | succ n =>
        obtain ⟨ax, wx, rfl, qx, px⟩ := hx.lst; obtain rfl : v = Value.ref ax := rx; obtain ⟨ix, zx, yx⟩ := rd_lst I qx
        obtain rfl := hy.str; obtain ⟨ty, rfl⟩ := ry
        simp only [eqD, Option.some.injEq] at e
        subst e
        exact SeqAt.RcNeAt.list_str _ _ yx (by omega)
    | tup d2 =>
      cases n with
      | zero => simp [eqD] at e
      | succ n =>
        obtain ⟨ax, wx, rfl, qx, px⟩ := hx.lst; obtain rfl : v = Value.ref ax := rx; obtain ⟨ix, zx, yx⟩ := rd_lst I qx
        obtain ⟨ay, wy, rfl, qy, py⟩ := hy.tup; obtain rfl : u = Value.ref ay := ry; obtain ⟨iy, zy, yy⟩ := rd_tup I hK qy
        simp only [eqD, Option.some.injEq] at e
        subst e
        exact SeqAt.RcNeAt.list_tuple yx yy (by omega)
    | lst d2 =>
      cases n with
      | zero => simp [eqD] at e
      | succ n =>
        obtain ⟨ax, wx, rfl, qx, px⟩ := hx.lst; obtain rfl : v = Value.ref ax := rx; obtain ⟨ix, zx, yx⟩ := rd_lst I qx
        obtain ⟨ay, wy, rfl, qy, py⟩ := hy.lst; obtain rfl : u = Value.ref ay := ry; obtain ⟨iy, zy, yy⟩ := rd_lst I qy
        simp only [eqD] at e
        exact ne_lsts (ih n rfl) hu yx yy zx zy px py e
    | _ => cases n <;> simp [eqD] at e
  | scr d1 =>
    cases dy with
    | lst d2 =>
      cases n with
      | zero => simp [eqD] at e
      | succ n =>
        obtain ⟨ax, wx, rfl, qx, px⟩ := hx.scr; obtain rfl : v = Value.ref ax := rx; obtain ⟨ix, zx, yx⟩ := rd_scr I hK qx
        obtain ⟨ay, wy, rfl, qy, py⟩ := hy.lst; obtain rfl : u = Value.ref ay := ry; obtain ⟨iy, zy, yy⟩ := rd_lst I qy
        simp only [eqD] at e
        exact ne_lsts (ih n rfl) hu yx yy zx zy px py e
    | _ => cases n <;> simp [eqD] at e
  | _ => cases dy <;> cases n <;> simp [eqD] at e
theorem eqIH (I : Inv X pins σ H s) (hK : X.K = G.K) : ∀ n, EqIH G pl o H B s n
  | 0 => fun A dx dy x y v u b hu e hx hy rx ry => eqAtOf I hK (fun k z => by cases z) hu e hx hy rx ry
  | n + 1 => fun A dx dy x y v u b hu e hx hy rx ry => eqAtOf I hK (fun k z => by cases z; exact eqIH I hK n) hu e hx hy rx ry
theorem rcAt (I : Inv X pins σ H s) (hK : X.K = G.K) {n : Nat} {A : Around} {dx dy : D} {x y : V} {v u : Value} {b : Bool} (hu : A.units + n < cLine) (e : eqD n dx dy = some b) (hx : RT G pl o H B x dx) (hy : RT G pl o H B y dy) (rx : RelV x v) (ry : RelV y u) : SeqAt.RcAt A s v u b :=
  rcAtOf I hK (fun k _ => eqIH I hK k) hu e hx hy rx ry
theorem neAt (I : Inv X pins σ H s) (hK : X.K = G.K) {n : Nat} {A : Around} {dx dy : D} {x y : V} {v u : Value} {b : Bool} (hu : A.units + n < cLine) (e : eqD n dx dy = some b) (hx : RT G pl o H B x dx) (hy : RT G pl o H B y dy) (rx : RelV x v) (ry : RelV y u) : SeqAt.RcNeAt A s v u (!b) :=
  neAtOf I hK (fun k _ => eqIH I hK k) hu e hx hy rx ry
end
end WB
namespace WB
open PySem L2
section
variable {G : Glob} {pl : Pl} {o : Objs} {H H' : Hp} {B B' : Addr → Prop}
theorem Rep.al {v : V} {d : D} (x : Rep G pl H B v d) (e : Al H H') (hb : ∀ a, H a ≠ none → B' a → B a) : Rep G pl H' B' v d :=
  Rep.go e.tups e.frzs (fun a vs nb h => ⟨fun z => nb (hb a (by rw [h]; simp) z), e.keep _ _ (fun z => z) h⟩) (fun a C nb h => ⟨fun z => nb (hb a (by rw [h]; simp) z), e.keep _ _ (fun z => z) h⟩) (fun k hk => ⟨rfl, hk⟩) x
theorem Reps.al {v : List V} {d : List D} (x : Reps G pl H B v d) (e : Al H H') (hb : ∀ a, H a ≠ none → B' a → B a) : Reps G pl H' B' v d :=
  Reps.go e.tups e.frzs (fun a vs nb h => ⟨fun z => nb (hb a (by rw [h]; simp) z), e.keep _ _ (fun z => z) h⟩) (fun a C nb h => ⟨fun z => nb (hb a (by rw [h]; simp) z), e.keep _ _ (fun z => z) h⟩) (fun k hk => ⟨rfl, hk⟩) x
def Out (G : Glob) (pl : Pl) (B : Addr → Prop) (H : Hp) (Q : VK) (d : D) : Prop := ∀ v H', Al H H' → Rep G pl H' B v d → (isL d = true → FR G pl H H' B v d) → Q v H'
def notL (d : D) : Bool := !isL d
theorem Out.val {Q : VK} {d : D} {v : V} (h : Out G pl B H Q d) (r : Rep G pl H B v d) (n : notL d = true) : Q v H :=
  h v H Ext.refl r fun e => by rw [notL, e] at n; cases n
theorem Out.newL {Q : VK} {ds : List D} {vs : List V} (h : Out G pl B H Q (.lst ds)) (old : ∀ a, B a → H a ≠ none) (r : Reps G pl H B vs ds) {p : Addr} (hp : H p = none) : Q (.ref p) (upd H p (.lst vs)) := by
  have nb : ¬ B p := fun z => old p z hp
  have al : Al H (upd H p (.lst vs)) := Ext.new hp
  refine h _ _ al (.lst nb upd_same (r.al al fun _ _ z => z)) fun _ => ⟨p, rfl, hp, nb, ?_⟩
  refine ⟨vs, upd_same, r.al al fun a ha z => ?_⟩
  rcases z with z | z
  · exact z
  · rw [z] at ha; exact absurd hp ha
theorem Out.newT {Q : VK} {ds : List D} {vs : List V} (h : Out G pl B H Q (.tup ds)) (r : Reps G pl H B vs ds) {p : Addr} (hp : H p = none) : Q (.ref p) (upd H p (.tup vs)) := by
  have al : Al H (upd H p (.tup vs)) := Ext.new hp
  exact h _ _ al (.tup upd_same (r.al al fun _ _ z => z)) fun e => by cases e
def r2 (G : Glob) (op : B2) : R2 := fun x y H Q => ∃ (pl : Pl) (o : Objs) (B : Addr → Prop) (dx dy : D), (∀ a, B a → H a ≠ none) ∧ RT G pl o H B x dx ∧ RT G pl o H B y dy ∧ Post (opM op dx dy) o (fun d _ => Out G pl B H Q d) fun _ _ => False
end
theorem rep_flat {α : Type} (l : List α) : ∀ n : Nat, (List.replicate n l).flatten = rep n l
  | 0 => rfl
  | n + 1 => by rw [List.replicate_succ, List.flatten_cons, rep_flat l n]; rfl
theorem sz_line : sz = sizeLine := by rw [sizeLine_eq]; rfl
theorem txt_len (s : List Nat) : (txt s).length = s.length := by simp [PySem.Str.length]
theorem txt_app (a b : List Nat) : txt a ++ txt b = txt (a ++ b) := by
  apply PySem.Str.ext'
  show a.toArray ++ b.toArray = (a ++ b).toArray
  simp
theorem ltT_eq : ∀ a b : List Nat, ltT a b = decide (a < b)
  | [], [] => by simp [ltT]
  | [], _ :: _ => by simp [ltT]
  | _ :: _, [] => by simp [ltT]
  | x :: r, y :: s => by
    unfold ltT
    rw [ltT_eq r s]
    by_cases h : x = y
    · subst h; simp
    · simp [h, List.cons_lt_cons_iff]
theorem foldl_arr (x : List Nat) : ∀ (k : Nat) (acc : Array Nat), (List.replicate k x.toArray).foldl (· ++ ·) acc = acc ++ (rep k x).toArray
  | 0, acc => by simp [rep]
  | k + 1, acc => by
    rw [List.replicate_succ, List.foldl_cons, foldl_arr x k]
    simp [rep]
def pyOp : B2 → Value → Value → Sem Value
  | .add => binaryOp .Add | .sub => binaryOp .Sub | .mul => binaryOp .Mult | .fdiv => binaryOp .FloorDiv | .mod => binaryOp .Mod | .pow => binaryOp .Pow
  | .eq => compareOp .Eq | .ne => compareOp .NotEq | .lt => compareOp .Lt | .le => compareOp .LtE | .gt => compareOp .Gt | .ge => compareOp .GtE
  | .is_ => compareOp .Is | .isnot => compareOp .IsNot | .in_ => compareOp .In | .notin => compareOp .NotIn
section
variable {G : Glob} {X : Cx}
theorem ok_add (hK : X.K = G.K) : OpR X (pyOp .add) (r2 G .add) := by
  intro pins s σ H x y v u Q I rx ry h
  obtain ⟨pl, o, B, dx, dy, old, hx, hy, hp⟩ := h
  cases dx <;> cases dy <;> simp only [opM] at hp <;> first
    | exact hp.elim
    | (obtain rfl := hx.int; obtain rfl := hy.int
       exact op_add pins s σ H _ _ v u Q I rx ry ⟨_, _, rfl, rfl, Out.val (Post.pure.mp hp) (.int _) rfl⟩)
    | (obtain rfl := hx.str; obtain rfl := hy.str
       split at hp
       · rename_i hl
         refine op_add_str pins s σ H _ _ v u Q I rx ry ⟨_, _, rfl, rfl, by rw [txt_len, txt_len, ← sz_line]; exact hl, ?_⟩
         rw [txt_app]
         exact Out.val (Post.pure.mp hp) (.str _) rfl
       · exact hp.elim)
    | (obtain ⟨a1, w1, rfl, q1, p1⟩ := hx.lst; obtain ⟨a2, w2, rfl, q2, p2⟩ := hy.lst
       split at hp
       · rename_i hl
         exact op_cat pins s σ H _ _ v u Q I rx ry ⟨_, _, _, _, rfl, rfl, q1, q2, by rw [p1.length, p2.length, ← sz_line]; exact hl, fun p hp' => Out.newL (Post.pure.mp hp) old (p1.append p2) hp'⟩
       · exact hp.elim)
    | (obtain ⟨a1, w1, rfl, q1, p1⟩ := hx.tupH; obtain ⟨a2, w2, rfl, q2, p2⟩ := hy.tupH
       split at hp
       · rename_i hl
         refine op_catA pins s σ H _ _ v u Q I rx ry ⟨_, _, _, _, rfl, rfl, .inl (.inl q1), .inl (.inl q2), by rw [p1.length, p2.length, ← sz_line]; exact hl, fun e => ?_, fun _ e => ?_, fun _ _ p hp' => ?_⟩
         · subst e
           cases p1
           exact Out.val (Post.pure.mp hp) (.tup q2 p2) rfl
         · subst e
           cases p2
           have hp := Post.pure.mp hp
           rw [List.append_nil] at hp
           exact Out.val hp (.tup q1 p1) rfl
         · exact Out.newT (Post.pure.mp hp) (p1.append p2) hp'
       · exact hp.elim)
theorem ok_sub : OpR X (pyOp .sub) (r2 G .sub) := by
  intro pins s σ H x y v u Q I rx ry h
  obtain ⟨pl, o, B, dx, dy, old, hx, hy, hp⟩ := h
  cases dx <;> cases dy <;> simp only [opM] at hp <;> first
    | exact hp.elim
    | (obtain rfl := hx.int; obtain rfl := hy.int
       exact op_sub pins s σ H _ _ v u Q I rx ry ⟨_, _, rfl, rfl, Out.val (Post.pure.mp hp) (.int _) rfl⟩)
theorem inR_ok {i j : Int} (h : (inR i || inR j) = true) : CMul i j := by
  unfold inR at h
  simp only [Bool.or_eq_true, Bool.and_eq_true, decide_eq_true_eq] at h
  rcases h with h | h
  · exact .inl ⟨by omega, by omega⟩
  · exact .inr ⟨by omega, by omega⟩
theorem len_rep {α : Type} (a : List α) : ∀ n : Nat, (rep n a).length = n * a.length
  | 0 => by simp [rep]
  | n + 1 => by simp [rep, len_rep a n, Nat.succ_mul]; omega
theorem rep_nil {α : Type} : ∀ n : Nat, rep n ([] : List α) = []
  | 0 => rfl
  | n + 1 => by simp [rep, rep_nil n]
theorem rep_one {α : Type} (a : List α) : rep 1 a = a := by simp [rep]
theorem mul_txt {pins : List (Addr × Obj)} {s : Shared} {σ : L2.St} {H : Hp} {v u : Value} {Q : VK} {a : List Nat} {k : Int} (I : Inv X pins σ H s) (rx : RelV (.str (txt a)) v) (ry : RelV (.int k) u) (h0 : 0 ≤ k) (h1 : k ≤ 1000) (h2 : a.length ≤ 1000)
    (q : Q (.str (txt (rep k.toNat a))) H) : wpAny (model X.prog X.w) X.A (binaryOp .Mult v u) (EP X pins σ Q) X.xe s := by
  obtain ⟨t, rfl⟩ := rx
  obtain ⟨t', rfl⟩ := ry
  have fin : EP X pins σ Q (.str (txt (rep k.toNat a)) s.toks) { s with toks := s.toks + 1 } := ⟨.str (txt (rep k.toNat a)), H, I.tok _, ⟨_, rfl⟩, q⟩
  have ln : (txt a).length * k.toNat ≤ 1000000 := by
    rw [txt_len]
    have : k.toNat ≤ 1000 := by omega
    exact Nat.mul_le_mul h2 this
  have tl : PySem.Builtin.Str.tooLong ((txt a).length * k.toNat) = false := by
    unfold PySem.Builtin.Str.tooLong
    rw [decide_eq_false_iff_not]
    have := sizeLine_eq
    omega
  refine PySem.P.mul_str (by simp; omega) (fun hk _ => ?_) (fun _ _ => tl) ?_
  · rw [txt_len]
    have hk1 : 1 ≤ k := by omega
    have : (1000 : Int) ≤ (2 ^ 63 - 1) / k := (Int.le_ediv_iff_mul_le (by omega)).mpr (by omega)
    omega
  · by_cases c1 : k < 1
    · rw [if_pos c1]
      have : k.toNat = 0 := by omega
      rw [this] at fin
      exact ⟨by decide, fin⟩
    · rw [if_neg c1]
      by_cases c2 : (k == 1 || (txt a).length == 0) = true
      · rw [if_pos c2]
        simp only [Bool.or_eq_true, beq_iff_eq] at c2
        refine ⟨.str (txt (rep k.toNat a)), H, I, ?_, q⟩
        rcases c2 with c2 | c2
        · subst c2
          refine ⟨t, ?_⟩
          rw [show (1 : Int).toNat = 1 from rfl, rep_one]
        · rw [txt_len] at c2
          have : a = [] := List.length_eq_zero_iff.mp c2
          subst this
          rw [rep_nil]
          exact ⟨t, rfl⟩
      · rw [if_neg c2]
        have e : (⟨(List.replicate k.toNat (txt a).cps).foldl (· ++ ·) #[]⟩ : PySem.Str) = txt (rep k.toNat a) := by
          have := foldl_arr a k.toNat #[]
          apply PySem.Str.ext'
          show (List.replicate k.toNat a.toArray).foldl (· ++ ·) #[] = (rep k.toNat a).toArray
          rw [this]; simp
        rw [e]
        refine ⟨?_, fin⟩
        rw [txt_len, len_rep, Nat.mul_comm, ← txt_len a, sizeLine_eq]
        omega
theorem ok_mul (hK : X.K = G.K) : OpR X (pyOp .mul) (r2 G .mul) := by
  intro pins s σ H x y v u Q I rx ry h
  obtain ⟨pl, o, B, dx, dy, old, hx, hy, hp⟩ := h
  cases dx <;> cases dy <;> simp only [opM] at hp <;> first
    | exact hp.elim
    | (obtain rfl := hx.int; obtain rfl := hy.int
       split at hp
       · rename_i hl
         exact op_mul pins s σ H _ _ v u Q I rx ry ⟨_, _, rfl, rfl, inR_ok hl, Out.val (Post.pure.mp hp) (.int _) rfl⟩
       · exact hp.elim)
    | (obtain rfl := hx.str; obtain rfl := hy.int
       split at hp
       · rename_i hl
         exact mul_txt I rx ry hl.1 hl.2.1 hl.2.2 (Out.val (Post.pure.mp hp) (.str _) rfl)
       · exact hp.elim)
    | (rename_i a k
       obtain ⟨a1, w1, rfl, q1, p1⟩ := hx.lst; obtain rfl := hy.int
       split at hp
       · rename_i hl
         obtain ⟨h0, h1, h2⟩ := hl
         refine op_rep pins s σ H _ _ v u Q I rx ry ⟨_, _, _, rfl, rfl, q1, by omega, by omega, ?_, fun p hp' => ?_⟩
         · rw [p1.length]
           have : a.length * k.toNat ≤ 1000 * 1000 := Nat.mul_le_mul h2 (by omega)
           rw [sizeLine_eq]; omega
         · rw [rep_flat]
           exact Out.newL (Post.pure.mp hp) old (p1.rep' _) hp'
       · exact hp.elim)
    | (rename_i a k
       obtain ⟨a1, w1, rfl, q1, p1⟩ := hx.tup; obtain rfl := hy.int
       split at hp
       · rename_i hl
         obtain ⟨h0, h1, h2, h3⟩ := hl
         refine op_repT pins s σ H _ _ v u Q I rx ry ⟨_, _, _, rfl, rfl, by rw [hK]; exact q1, ?_, h0, h1, by rw [p1.length]; exact h2, fun p hp' => ?_⟩
         · intro e
           subst e
           cases p1
           exact h3 rfl
         · rw [rep_flat]
           exact Out.newT (Post.pure.mp hp) (p1.rep' _) hp'
       · exact hp.elim)
theorem ok_fdiv : OpR X (pyOp .fdiv) (r2 G .fdiv) := by
  intro pins s σ H x y v u Q I rx ry h
  obtain ⟨pl, o, B, dx, dy, old, hx, hy, hp⟩ := h
  cases dx <;> cases dy <;> simp only [opM] at hp <;> first
    | exact hp.elim
    | (obtain rfl := hx.int; obtain rfl := hy.int
       split at hp
       · rename_i hl
         exact op_fdiv pins s σ H _ _ v u Q I rx ry ⟨_, _, rfl, rfl, hl, Out.val (Post.pure.mp hp) (.int _) rfl⟩
       · exact hp.elim)
theorem ok_mod : OpR X (pyOp .mod) (r2 G .mod) := by
  intro pins s σ H x y v u Q I rx ry h
  obtain ⟨pl, o, B, dx, dy, old, hx, hy, hp⟩ := h
  cases dx <;> cases dy <;> simp only [opM] at hp <;> first
    | exact hp.elim
    | (obtain rfl := hx.int; obtain rfl := hy.int
       split at hp
       · rename_i hl
         exact op_mod pins s σ H _ _ v u Q I rx ry ⟨_, _, rfl, rfl, hl, Out.val (Post.pure.mp hp) (.int _) rfl⟩
       · exact hp.elim)
theorem ok_pow : OpR X (pyOp .pow) (r2 G .pow) := by
  intro pins s σ H x y v u Q I rx ry h
  obtain ⟨pl, o, B, dx, dy, old, hx, hy, hp⟩ := h
  cases dx <;> cases dy <;> simp only [opM] at hp <;> first
    | exact hp.elim
    | (obtain rfl := hx.int; obtain rfl := hy.int
       split at hp
       · rename_i hl
         exact op_pow pins s σ H _ _ v u Q I rx ry ⟨_, _, rfl, rfl, ⟨hl.1, by omega, by omega⟩, Out.val (Post.pure.mp hp) (.int _) rfl⟩
       · exact hp.elim)
theorem eqM_post {dx dy : D} {o : Objs} {P : D → Objs → Prop} {f : Bool → D} (h : Post (eqM dx dy >>= fun b => pure (f b)) o P fun _ _ => False) : ∃ b, eqD dp dx dy = some b ∧ P (f b) o := by
  unfold eqM at h
  cases e : eqD dp dx dy with
  | none => rw [e] at h; exact h.elim
  | some b => rw [e] at h; exact ⟨b, rfl, h⟩
theorem ok_eq (hK : X.K = G.K) (hu : X.A.units + 64 < cLine) : OpR X (pyOp .eq) (r2 G .eq) := by
  intro pins s σ H x y v u Q I rx ry h
  obtain ⟨pl, o, B, dx, dy, old, hx, hy, hp⟩ := h
  simp only [opM] at hp
  obtain ⟨b, e, q⟩ := eqM_post hp
  exact rcAt I hK (n := dp) (by unfold dp; omega) e hx hy rx ry X.prog X.w X.xe _ ⟨.bl b, H, I, rfl, Out.val q (.bl b) rfl⟩
theorem ok_ne (hK : X.K = G.K) (hu : X.A.units + 64 < cLine) : OpR X (pyOp .ne) (r2 G .ne) := by
  intro pins s σ H x y v u Q I rx ry h
  obtain ⟨pl, o, B, dx, dy, old, hx, hy, hp⟩ := h
  simp only [opM] at hp
  obtain ⟨b, e, q⟩ := eqM_post hp
  exact neAt I hK (n := dp) (by unfold dp; omega) e hx hy rx ry X.prog X.w X.xe _ ⟨.bl (!b), H, I, rfl, Out.val q (.bl (!b)) rfl⟩
theorem lex_eq : ∀ a b : List Int, lexI a b = HT.lexLt a b
  | [], [] => rfl
  | [], _ :: _ => rfl
  | _ :: _, [] => rfl
  | x :: xs, y :: ys => by
    show (if x = y then lexI xs ys else decide (x < y)) = if x = y then HT.lexLt xs ys else decide (x < y)
    rw [lex_eq]
theorem ints_reps : ∀ {vs : List V} {ds : List D} {ns : List Int}, Reps G pl H B vs ds → intsOf ds = some ns → vs = ns.map V.int
  | _, _, _, .nil, e => by cases e; rfl
  | _, _, ns, .cons (d := d) h t, e => by
    cases d with
    | int i =>
      rename_i vs ds
      have e' : (intsOf ds).map (i :: ·) = some ns := e
      cases q : intsOf ds with
      | none => rw [q] at e'; cases e'
      | some l =>
        rw [q] at e'
        cases e'
        cases h
        rw [ints_reps t q]
        rfl
    | _ => cases e
theorem ok_lt (hK : X.K = G.K) (hu : X.A.units + 64 < cLine) : OpR X (pyOp .lt) (r2 G .lt) := by
  intro pins s σ H x y v u Q I rx ry h
  obtain ⟨pl, o, B, dx, dy, old, hx, hy, hp⟩ := h
  cases dx <;> cases dy <;> simp only [opM] at hp <;> first
    | exact hp.elim
    | (obtain rfl := hx.int; obtain rfl := hy.int
       exact op_lt pins s σ H _ _ v u Q I rx ry ⟨_, _, rfl, rfl, Out.val (Post.pure.mp hp) (.bl _) rfl⟩)
    | (obtain rfl := hx.str; obtain rfl := hy.str
       rw [ltT_eq] at hp
       exact op_lt_str pins s σ H _ _ v u Q I rx ry ⟨_, _, rfl, rfl, Out.val (Post.pure.mp hp) (.bl _) rfl⟩)
    | (obtain ⟨a, vs, rfl, h1, r1⟩ := hx.tup
       obtain ⟨b, ws, rfl, h2, r2⟩ := hy.tup
       unfold ltTM at hp
       split at hp
       · rename_i n1 n2 e1 e2
         rw [ints_reps r1 e1] at h1
         rw [ints_reps r2 e2] at h2
         rw [lex_eq] at hp
         exact op_ltT (by omega) pins s σ H _ _ v u Q I rx ry ⟨a, b, n1, n2, rfl, rfl, hK ▸ h1, hK ▸ h2, Out.val (Post.pure.mp hp) (.bl _) rfl⟩
       · exact hp.elim)
theorem ok_le : OpR X (pyOp .le) (r2 G .le) := by
  intro pins s σ H x y v u Q I rx ry h
  obtain ⟨pl, o, B, dx, dy, old, hx, hy, hp⟩ := h
  cases dx <;> cases dy <;> simp only [opM] at hp <;> first
    | exact hp.elim
    | (obtain rfl := hx.int; obtain rfl := hy.int
       exact op_le pins s σ H _ _ v u Q I rx ry ⟨_, _, rfl, rfl, Out.val (Post.pure.mp hp) (.bl _) rfl⟩)
    | (obtain rfl := hx.str; obtain rfl := hy.str
       rw [ltT_eq] at hp
       exact op_le_str pins s σ H _ _ v u Q I rx ry ⟨_, _, rfl, rfl, Out.val (Post.pure.mp hp) (.bl _) rfl⟩)
theorem ok_gt : OpR X (pyOp .gt) (r2 G .gt) := by
  intro pins s σ H x y v u Q I rx ry h
  obtain ⟨pl, o, B, dx, dy, old, hx, hy, hp⟩ := h
  cases dx <;> cases dy <;> simp only [opM] at hp <;> first
    | exact hp.elim
    | (obtain rfl := hx.int; obtain rfl := hy.int
       exact op_gt pins s σ H _ _ v u Q I rx ry ⟨_, _, rfl, rfl, Out.val (Post.pure.mp hp) (.bl _) rfl⟩)
    | (obtain rfl := hx.str; obtain rfl := hy.str
       rw [ltT_eq] at hp
       exact op_gt_str pins s σ H _ _ v u Q I rx ry ⟨_, _, rfl, rfl, Out.val (Post.pure.mp hp) (.bl _) rfl⟩)
theorem ok_ge : OpR X (pyOp .ge) (r2 G .ge) := by
  intro pins s σ H x y v u Q I rx ry h
  obtain ⟨pl, o, B, dx, dy, old, hx, hy, hp⟩ := h
  cases dx <;> cases dy <;> simp only [opM] at hp <;> first
    | exact hp.elim
    | (obtain rfl := hx.int; obtain rfl := hy.int
       exact op_ge pins s σ H _ _ v u Q I rx ry ⟨_, _, rfl, rfl, Out.val (Post.pure.mp hp) (.bl _) rfl⟩)
    | (obtain rfl := hx.str; obtain rfl := hy.str
       rw [ltT_eq] at hp
       exact op_ge_str pins s σ H _ _ v u Q I rx ry ⟨_, _, rfl, rfl, Out.val (Post.pure.mp hp) (.bl _) rfl⟩)
theorem RT.nn {pl : Pl} {o : Objs} {H : Hp} {B : Addr → Prop} {v : V} {d : D} (h : RT G pl o H B v d) : decide (v = .non) = (match d with | .non => true | _ => false) := by
  rcases h with h | ⟨p, e, _, h⟩
  · cases h <;> simp
  · subst e
    cases d with
    | lst ds => simp
    | dic t kd => simp
    | _ => exact h.elim
theorem ok_is : OpR X (pyOp .is_) (r2 G .is_) := by
  intro pins s σ H x y v u Q I rx ry h
  obtain ⟨pl, o, B, dx, dy, old, hx, hy, hp⟩ := h
  have nn := hx.nn
  cases dx <;> cases dy <;> simp only [opM] at hp <;> first
    | exact hp.elim
    | (obtain rfl := hy.non
       refine op_isN pins s σ H _ _ v u Q I rx ry ⟨rfl, ?_⟩
       rw [nn]
       exact Out.val (Post.pure.mp hp) (.bl _) rfl)
    | (obtain rfl := hx.bl; obtain rfl := hy.bl
       refine op_isBl pins s σ H _ _ v u Q I rx ry ⟨_, _, rfl, rfl, ?_⟩
       rw [← Bool.beq_eq_decide_eq]
       exact Out.val (Post.pure.mp hp) (.bl _) rfl)
theorem ok_isnot : OpR X (pyOp .isnot) (r2 G .isnot) := by
  intro pins s σ H x y v u Q I rx ry h
  obtain ⟨pl, o, B, dx, dy, old, hx, hy, hp⟩ := h
  have nn := hx.nn
  cases dx <;> cases dy <;> simp only [opM] at hp <;> first
    | exact hp.elim
    | (obtain rfl := hy.non
       refine op_notN pins s σ H _ _ v u Q I rx ry ⟨rfl, ?_⟩
       rw [nn]
       exact Out.val (Post.pure.mp hp) (.bl _) rfl)
    | (obtain rfl := hx.bl; obtain rfl := hy.bl
       refine op_notBl pins s σ H _ _ v u Q I rx ry ⟨_, _, rfl, rfl, ?_⟩
       rw [← Bool.beq_eq_decide_eq]
       exact Out.val (Post.pure.mp hp) (.bl _) rfl)
theorem inL_all {x : D} : ∀ {ys : List D} {b : Bool}, inL x ys = some b → ∀ (j : Nat) (y : D), ys[j]? = some y → ∃ c, eqD dp y x = some c
  | [], _, _, j, y, h => by simp at h
  | y0 :: ys, b, e, j, y, h => by
    simp only [inL] at e
    cases e1 : eqD dp y0 x with
    | none => rw [e1] at e; cases e
    | some a =>
      cases e2 : inL x ys with
      | none => rw [e1, e2] at e; cases e
      | some c =>
        cases j with
        | zero => simp at h; subst h; exact ⟨a, e1⟩
        | succ j => simp at h; exact inL_all e2 j y h
theorem inL_iff {x : D} : ∀ {ys : List D} {b : Bool}, inL x ys = some b → (b = true ↔ ∃ (j : Nat) (y : D), ys[j]? = some y ∧ eqD dp y x = some true)
  | [], b, e => by simp only [inL] at e; cases e; simp
  | y0 :: ys, b, e => by
    simp only [inL] at e
    cases e1 : eqD dp y0 x with
    | none => rw [e1] at e; cases e
    | some a =>
      cases e2 : inL x ys with
      | none => rw [e1, e2] at e; cases e
      | some c =>
        rw [e1, e2] at e
        cases e
        rw [Bool.or_eq_true, inL_iff e2]
        constructor
        · rintro (h | ⟨j, y, h1, h2⟩)
          · exact ⟨0, y0, rfl, by rw [e1, h]⟩
          · exact ⟨j + 1, y, by simpa using h1, h2⟩
        · rintro ⟨j, y, h1, h2⟩
          cases j with
          | zero => simp at h1; subst h1; rw [e1] at h2; cases h2; exact .inl rfl
          | succ j => exact .inr ⟨j, y, by simpa using h1, h2⟩
open Classical in
theorem mem_of {pl : Pl} {o : Objs} {H : Hp} {B : Addr → Prop} {pins : List (Addr × Obj)} {s : Shared} {σ : L2.St} (I : Inv X pins σ H s) (hK : X.K = G.K) (hu : X.A.units + 64 < cLine) {x : D} {xv : V} {xu : Value} {ys : List D} {vs : List V} {us : List Value} {b : Bool}
    (e : inL x ys = some b) (hx : RT G pl o H B xv x) (rx : RelV xv xu) (p : Reps G pl H B vs ys) (z : Vals vs us) : ∃ f : Value → Bool, (∀ y, y ∈ us.toArray → SeqAt.EqAt X.A.in1 s y xu (f y)) ∧ us.toArray.any f = b := by
  have at_ : ∀ (j : Nat) (y : Value), us[j]? = some y → ∃ d v, ys[j]? = some d ∧ Rep G pl H B v d ∧ RelV v y := fun j y hj => by
    have hl : j < vs.length := by rw [z.length]; exact (List.getElem?_eq_some_iff.mp hj).1
    obtain ⟨d, e1, r1⟩ := p.get' (i := j) (v := vs[j]) (by simp [hl])
    obtain ⟨u, e2, r2⟩ := z.get (i := j) (x := vs[j]) (by simp [hl])
    rw [hj] at e2; cases e2
    exact ⟨d, _, e1, r1, r2⟩
  refine ⟨fun y => decide (∃ (j : Nat) (d : D), us[j]? = some y ∧ ys[j]? = some d ∧ eqD dp d x = some true), fun y hy => ?_, ?_⟩
  · obtain ⟨j, hj⟩ := List.getElem?_of_mem (List.mem_toArray.mp hy)
    by_cases c : ∃ (j : Nat) (d : D), us[j]? = some y ∧ ys[j]? = some d ∧ eqD dp d x = some true
    · dsimp only
      rw [decide_eq_true c]
      obtain ⟨k, d, h1, h2, h3⟩ := c
      obtain ⟨d', v', f1, f2, f3⟩ := at_ k y h1
      rw [h2] at f1; cases f1
      exact eqIH I hK dp X.A.in1 _ _ _ _ _ _ _ (by unfold dp; show X.A.units + 1 + 40 < cLine; omega) h3 (.inl f2) hx f3 rx
    · dsimp only
      rw [decide_eq_false c]
      obtain ⟨d, v', f1, f2, f3⟩ := at_ j y hj
      obtain ⟨a, ha⟩ := inL_all e j d f1
      have : a = false := by
        cases a with
        | false => rfl
        | true => exact absurd ⟨j, d, hj, f1, ha⟩ c
      subst this
      exact eqIH I hK dp X.A.in1 _ _ _ _ _ _ _ (by unfold dp; show X.A.units + 1 + 40 < cLine; omega) ha (.inl f2) hx f3 rx
  · rw [Bool.eq_iff_iff, inL_iff e, List.any_toArray, List.any_eq_true]
    constructor
    · rintro ⟨y, hy, h⟩
      obtain ⟨j, d, h1, h2, h3⟩ := of_decide_eq_true h
      exact ⟨j, d, h2, h3⟩
    · rintro ⟨j, d, h1, h2⟩
      have hl : j < us.length := by rw [← z.length, p.length]; exact (List.getElem?_eq_some_iff.mp h1).1
      exact ⟨us[j], List.getElem_mem hl, decide_eq_true ⟨j, d, by simp [hl], h1, h2⟩⟩
theorem ok_inL (hK : X.K = G.K) (hu : X.A.units + 64 < cLine) {pl : Pl} {o : Objs} {H : Hp} {B : Addr → Prop} {pins : List (Addr × Obj)} {s : Shared} {σ : L2.St} {x y : V} {v u : Value} {Q : VK} (I : Inv X pins σ H s) (rx : RelV x v) (ry : RelV y u) {dx : D} {ys : List D} {b : Bool}
    (hx : RT G pl o H B x dx) (e : inL dx ys = some b) (hy : RT G pl o H B y (.lst ys) ∨ RT G pl o H B y (.tup ys)) :
    (Q (.bl b) H → wpAny (model X.prog X.w) X.A (compareOp .In v u) (EP X pins σ Q) X.xe s) ∧ (Q (.bl (!b)) H → wpAny (model X.prog X.w) X.A (compareOp .NotIn v u) (EP X pins σ Q) X.xe s) := by
  rcases hy with hy | hy
  · obtain ⟨a, vs, rfl, q, p⟩ := hy.lst
    obtain rfl : u = Value.ref a := ry
    obtain ⟨us, z, il⟩ := rd_lst I q
    obtain ⟨f, hf, hb⟩ := mem_of I hK hu e hx rx p z
    refine ⟨fun w => SeqAt.in_listAt f il hf ?_, fun w => SeqAt.notIn_listAt f il hf ?_⟩
    · rw [hb]; exact ⟨.bl b, H, I, rfl, w⟩
    · rw [hb]; exact ⟨.bl (!b), H, I, rfl, w⟩
  · obtain ⟨a, vs, rfl, q, p⟩ := hy.tup
    obtain rfl : u = Value.ref a := ry
    obtain ⟨us, z, il⟩ := rd_tup I hK q
    obtain ⟨f, hf, hb⟩ := mem_of I hK hu e hx rx p z
    refine ⟨fun w => SeqAt.in_tupleAt f il hf ?_, fun w => SeqAt.notIn_tupleAt f il hf ?_⟩
    · rw [hb]; exact ⟨.bl b, H, I, rfl, w⟩
    · rw [hb]; exact ⟨.bl (!b), H, I, rfl, w⟩
theorem inM_post {dx dy : D} {o : Objs} {P : D → Objs → Prop} {f : Bool → D} (h : Post (inM dx dy >>= fun b => pure (f b)) o P fun _ _ => False) :
    (∃ c s, dx = .str [c] ∧ dy = .str s ∧ P (f (s.contains c)) o) ∨ ∃ ys b, (dy = .lst ys ∨ dy = .tup ys) ∧ inL dx ys = some b ∧ P (f b) o := by
  have key : ∀ ys, Post ((match inL dx ys with | some b => pure b | none => M.fail : M Bool) >>= fun b => pure (f b)) o P (fun _ _ => False) → ∃ b, inL dx ys = some b ∧ P (f b) o := fun ys h => by
    cases e : inL dx ys with
    | none => rw [e] at h; exact h.elim
    | some b => rw [e] at h; exact ⟨b, rfl, h⟩
  cases dy with
  | lst ys =>
    obtain ⟨b, e, q⟩ := key ys h
    exact .inr ⟨ys, b, .inl rfl, e, q⟩
  | tup ys =>
    obtain ⟨b, e, q⟩ := key ys h
    exact .inr ⟨ys, b, .inr rfl, e, q⟩
  | str s =>
    cases dx with
    | str l =>
      cases l with
      | nil => exact h.elim
      | cons c r =>
        cases r with
        | nil => exact .inl ⟨c, s, rfl, rfl, h⟩
        | cons _ _ => exact h.elim
    | _ => exact h.elim
  | _ => exact h.elim
theorem ok_in (hK : X.K = G.K) (hu : X.A.units + 64 < cLine) : OpR X (pyOp .in_) (r2 G .in_) := by
  intro pins s σ H x y v u Q I rx ry h
  obtain ⟨pl, o, B, dx, dy, old, hx, hy, hp⟩ := h
  simp only [opM] at hp
  rcases inM_post hp with ⟨c, t, rfl, rfl, q⟩ | ⟨ys, b, hd, e, q⟩
  · obtain rfl := hx.str; obtain rfl := hy.str
    refine op_in_sign pins s σ H _ _ v u Q I rx ry ⟨c, _, rfl, rfl, ?_⟩
    have : decide (c ∈ (txt t).cps.toList) = t.contains c := by simp
    rw [this]
    exact Out.val q (.bl _) rfl
  · have hy' : RT G pl o H B y (.lst ys) ∨ RT G pl o H B y (.tup ys) := by rcases hd with rfl | rfl <;> first | exact .inl hy | exact .inr hy
    exact (ok_inL hK hu I rx ry hx e hy').1 (Out.val q (.bl _) rfl)
theorem ok_notin (hK : X.K = G.K) (hu : X.A.units + 64 < cLine) : OpR X (pyOp .notin) (r2 G .notin) := by
  intro pins s σ H x y v u Q I rx ry h
  obtain ⟨pl, o, B, dx, dy, old, hx, hy, hp⟩ := h
  simp only [opM] at hp
  rcases inM_post (f := fun b => .bl (!b)) hp with ⟨c, t, rfl, rfl, q⟩ | ⟨ys, b, hd, e, q⟩
  · obtain rfl := hx.str; obtain rfl := hy.str
    refine op_notIn_sign pins s σ H _ _ v u Q I rx ry ⟨c, _, rfl, rfl, ?_⟩
    have : decide (c ∈ (txt t).cps.toList) = t.contains c := by simp
    rw [this]
    exact Out.val q (.bl _) rfl
  · have hy' : RT G pl o H B y (.lst ys) ∨ RT G pl o H B y (.tup ys) := by rcases hd with rfl | rfl <;> first | exact .inl hy | exact .inr hy
    exact (ok_inL hK hu I rx ry hx e hy').2 (Out.val q (.bl _) rfl)
theorem ok_op (hK : X.K = G.K) (hu : X.A.units + 64 < cLine) : ∀ op : B2, OpR X (pyOp op) (r2 G op)
  | .add => ok_add hK | .sub => ok_sub | .mul => ok_mul hK | .fdiv => ok_fdiv | .mod => ok_mod | .pow => ok_pow
  | .eq => ok_eq hK hu | .ne => ok_ne hK hu | .lt => ok_lt hK hu | .le => ok_le | .gt => ok_gt | .ge => ok_ge
  | .is_ => ok_is | .isnot => ok_isnot | .in_ => ok_in hK hu | .notin => ok_notin hK hu
end
end WB
namespace WB
open PySem L2
section
variable {G : Glob} {pl : Pl} {o : Objs} {H : Hp} {B : Addr → Prop}
theorem strs_of : ∀ {vs : List V} {ds : List D} {l : List (List Nat)}, Reps G pl H B vs ds → strsOf ds = some l → vs = (l.map txt).map V.str ∧ ds = l.map D.str
  | _, _, l, .nil, e => by simp only [strsOf] at e; cases e; exact ⟨rfl, rfl⟩
  | _, _, l, .cons h t, e => by
    cases h with
    | str s =>
      simp only [strsOf] at e
      rename_i ds
      cases e1 : strsOf ds with
      | none => rw [e1] at e; cases e
      | some r =>
        rw [e1] at e
        cases e
        obtain ⟨h1, h2⟩ := strs_of t e1
        rw [h1, h2]
        exact ⟨rfl, rfl⟩
    | _ => simp [strsOf] at e
theorem ints_of' : ∀ {vs : List V} {ds : List D} {l : List Int}, Reps G pl H B vs ds → intsOf ds = some l → vs = l.map V.int ∧ ds = l.map D.int
  | _, _, l, .nil, e => by simp only [intsOf] at e; cases e; exact ⟨rfl, rfl⟩
  | _, _, l, .cons h t, e => by
    cases h with
    | int s =>
      simp only [intsOf] at e
      rename_i ds
      cases e1 : intsOf ds with
      | none => rw [e1] at e; cases e
      | some r =>
        rw [e1] at e
        cases e
        obtain ⟨h1, h2⟩ := ints_of' t e1
        rw [h1, h2]
        exact ⟨rfl, rfl⟩
    | _ => simp [intsOf] at e
theorem bls_of : ∀ {vs : List V} {ds : List D} {l : List Bool}, Reps G pl H B vs ds → blsOf ds = some l → vs = l.map V.bl ∧ ds = l.map D.bl
  | _, _, l, .nil, e => by simp only [blsOf] at e; cases e; exact ⟨rfl, rfl⟩
  | _, _, l, .cons h t, e => by
    cases h with
    | bl s =>
      simp only [blsOf] at e
      rename_i ds
      cases e1 : blsOf ds with
      | none => rw [e1] at e; cases e
      | some r =>
        rw [e1] at e
        cases e
        obtain ⟨h1, h2⟩ := bls_of t e1
        rw [h1, h2]
        exact ⟨rfl, rfl⟩
    | _ => simp [blsOf] at e
theorem reps_strs : ∀ l : List (List Nat), Reps G pl H B ((l.map txt).map V.str) (l.map D.str)
  | [] => .nil
  | s :: l => .cons (.str s) (reps_strs l)
theorem sIx_eq (n d : Nat) (o : Option Int) : sIx n d o = HT.sIx n d o := by
  cases o with
  | none => rfl
  | some v =>
    have h := HT.clip_eq v n d
    show (if v < 0 then (v + n).toNat else min v.toNat n) = _
    split at h
    · rename_i c
      rw [if_pos c]
      omega
    · rename_i c
      rw [if_neg c]
      omega
def rI2 (G : Glob) : R2 := fun x y H Q => ∃ (pl : Pl) (o : Objs) (B : Addr → Prop) (dx dy : D), (∀ a, B a → H a ≠ none) ∧ RT G pl o H B x dx ∧ RT G pl o H B y dy ∧ Post (idxM dx dy) o (fun d _ => ∀ v, Rep G pl H B v d → Q v H) fun _ _ => False
end
section
variable {G : Glob} {X : Cx}
theorem reps_at {pl : Pl} {H : Hp} {B : Addr → Prop} {vs : List V} {ds : List D} (p : Reps G pl H B vs ds) {i : Int} {d : D} (e : atD ds i = some d) : ∃ v, L2.atI vs i = some v ∧ Rep G pl H B v d := by
  unfold atD at e
  obtain ⟨j, e1, e2⟩ := Option.bind_eq_some_iff.mp e
  obtain ⟨v, h1, h2⟩ := p.get e2
  refine ⟨v, ?_, h2⟩
  show (L2.ixN vs.length i).bind _ = _
  rw [p.length]
  have : L2.ixN ds.length i = some j := e1
  rw [this]
  exact h1
theorem ok_ix (hK : X.K = G.K) : IxR X (rI2 G) := by
  intro value slice pins s σ H x y v u Q I rx ry h hs
  obtain ⟨pl, o, B, dx, dy, old, hx, hy, hp⟩ := h
  cases dx with
  | lst xs =>
    cases dy with
    | int i =>
      simp only [idxM] at hp
      obtain ⟨a, vs, rfl, q, p⟩ := hx.lst
      obtain rfl := hy.int
      split at hp
      · rename_i d e
        obtain ⟨w, e1, r1⟩ := reps_at p e
        exact ix_list value slice pins s σ H _ _ v u Q I rx ry ⟨a, vs, i, w, rfl, rfl, .inl (.inl q), e1, (Post.pure.mp hp) w r1⟩ hs
      · exact hp.elim
    | _ => exact hp.elim
  | scr xs =>
    cases dy with
    | int i =>
      simp only [idxM] at hp
      obtain ⟨a, vs, rfl, q, p⟩ := hx.scr
      obtain rfl := hy.int
      split at hp
      · rename_i d e
        obtain ⟨w, e1, r1⟩ := reps_at p e
        exact ix_list value slice pins s σ H _ _ v u Q I rx ry ⟨a, vs, i, w, rfl, rfl, by rw [hK]; exact q, e1, (Post.pure.mp hp) w r1⟩ hs
      · exact hp.elim
    | _ => exact hp.elim
  | tup xs =>
    cases dy with
    | int i =>
      simp only [idxM] at hp
      obtain ⟨a, vs, rfl, q, p⟩ := hx.tup
      obtain rfl := hy.int
      split at hp
      · rename_i d e
        obtain ⟨w, e1, r1⟩ := reps_at p e
        exact ix_tup value slice pins s σ H _ _ v u Q I rx ry ⟨a, vs, i, w, rfl, rfl, by rw [hK]; exact q, e1, (Post.pure.mp hp) w r1⟩ hs
      · exact hp.elim
    | _ => exact hp.elim
  | str t =>
    cases dy with
    | int i =>
      simp only [idxM] at hp
      obtain rfl := hx.str
      obtain rfl := hy.int
      split at hp
      · rename_i hz
        split at hp
        · rename_i c e
          exact ix_str value slice pins s σ H _ _ v u Q I rx ry ⟨txt t, i, c, rfl, rfl, by rw [txt_len, ← sz_line]; exact hz, e, (Post.pure.mp hp) _ (.str [c])⟩ hs
        · exact hp.elim
      · exact hp.elim
    | _ => exact hp.elim
  | _ => cases dy <;> exact hp.elim
def rSl (G : Glob) : V → Option Int → Option Int → Hp → VK → Prop := fun x lo hi H Q => ∃ (pl : Pl) (o : Objs) (B : Addr → Prop) (dx : D), (∀ a, B a → H a ≠ none) ∧ RT G pl o H B x dx ∧ Post (cutM dx lo hi) o (fun d _ => Out G pl B H Q d) fun _ _ => False
theorem cut_reps {pl : Pl} {H : Hp} {B : Addr → Prop} {vs : List V} {ds : List D} (p : Reps G pl H B vs ds) (lo hi : Option Int) : Reps G pl H B (cutV vs lo hi) (cut ds lo hi) := by
  unfold cutV cut
  rw [p.length, sIx_eq, sIx_eq]
  exact (p.drop _).take _
theorem cut_txt (t : List Nat) (lo hi : Option Int) : cutS (txt t) lo hi = txt (cut t lo hi) := by
  unfold cutS cut
  rw [txt_len, sIx_eq, sIx_eq]
theorem ok_sl (hK : X.K = G.K) : SlR X (rSl G) := by
  intro pins s σ H x v vl vu lo hi sl Q I rx hs pl' pu h
  obtain ⟨pl, o, B, dx, old, hx, hp⟩ := h
  cases dx with
  | lst xs =>
    simp only [cutM] at hp
    obtain ⟨a, vs, rfl, q, p⟩ := hx.lst
    exact sl_list pins s σ H _ v vl vu lo hi sl Q I rx hs pl' pu ⟨a, vs, rfl, .inl (.inl q), fun p' hp' => Out.newL (Post.pure.mp hp) old (cut_reps p lo hi) hp'⟩
  | tup xs =>
    simp only [cutM] at hp
    obtain ⟨a, vs, rfl, q, p⟩ := hx.tupH
    refine sl_tupA pins s σ H _ v vl vu lo hi sl Q I rx hs pl' pu ⟨a, vs, rfl, .inl (.inl q), fun e => ?_, fun _ p' hp' => Out.newT (Post.pure.mp hp) (cut_reps p lo hi) hp'⟩
    have hp := Post.pure.mp hp
    have : cut xs lo hi = xs := by
      unfold cut
      rw [sIx_eq, sIx_eq, ← p.length, e.1, e.2, p.length]
      simp
    rw [this] at hp
    exact Out.val hp (.tup q p) rfl
  | str t =>
    simp only [cutM] at hp
    obtain rfl := hx.str
    split at hp
    · rename_i hz
      refine sl_str pins s σ H _ v vl vu lo hi sl Q I rx hs pl' pu ⟨txt t, rfl, by rw [txt_len, ← sz_line]; exact hz, ?_⟩
      rw [cut_txt]
      exact Out.val (Post.pure.mp hp) (.str _) rfl
    · exact hp.elim
  | _ => exact hp.elim
def rC (G : Glob) (f : BF) : List V → Hp → VK → Prop := fun xs H Q => ∃ (pl : Pl) (o : Objs) (B : Addr → Prop) (ds : List D), (∀ a, B a → H a ≠ none) ∧ Paired (fun v d => RT G pl o H B v d) xs ds ∧ Post (bltM f ds) o (fun d _ => Out G pl B H Q d) fun _ _ => False
theorem one_of {pl : Pl} {o : Objs} {H : Hp} {B : Addr → Prop} {xs : List V} {d : D} (h : Paired (fun v d => RT G pl o H B v d) xs [d]) : ∃ v, xs = [v] ∧ RT G pl o H B v d := by
  cases h with
  | cons a t => cases t; exact ⟨_, rfl, a⟩
theorem two_of {pl : Pl} {o : Objs} {H : Hp} {B : Addr → Prop} {xs : List V} {d e : D} (h : Paired (fun v d => RT G pl o H B v d) xs [d, e]) : ∃ v w, xs = [v, w] ∧ RT G pl o H B v d ∧ RT G pl o H B w e := by
  cases h with
  | cons a t =>
    obtain ⟨w, rfl, r⟩ := one_of t
    exact ⟨_, w, rfl, a, r⟩
theorem blt1 {f : BF} {ds : List D} {o : Objs} {P : D → Objs → Prop} (hf : f = .len ∨ f = .all ∨ f = .any ∨ f = .sum ∨ f = .sorted ∨ f = .list ∨ f = .tuple ∨ f = .int1 ∨ f = .max1 ∨ f = .min1) (h : Post (bltM f ds) o P fun _ _ => False) : ∃ d, ds = [d] := by
  rcases ds with _ | ⟨d, _ | ⟨e, r⟩⟩
  · rcases hf with rfl | rfl | rfl | rfl | rfl | rfl | rfl | rfl | rfl | rfl <;> exact h.elim
  · exact ⟨d, rfl⟩
  · rcases r with _ | ⟨_, _⟩
    · rcases hf with rfl | rfl | rfl | rfl | rfl | rfl | rfl | rfl | rfl | rfl <;> exact h.elim
    · exact h.elim
theorem ok_len (hK : X.K = G.K) : CallR X (.builtin "len") (rC G .len) := by
  intro pins s σ H xs us Q I r h
  obtain ⟨pl, o, B, ds, old, hx, hp⟩ := h
  obtain ⟨d, rfl⟩ := blt1 (.inl rfl) hp
  obtain ⟨v, rfl, hv⟩ := one_of hx
  simp only [bltM, blt1M] at hp
  cases d with
  | lst l =>
    obtain ⟨a, vs, rfl, q, p⟩ := hv.lst
    refine call_len_seq pins s σ H _ us Q I r ⟨a, vs, rfl, .inl (.inl (.inl q)), ?_⟩
    rw [p.length]
    exact Out.val (Post.pure.mp hp) (.int _) rfl
  | scr l =>
    obtain ⟨a, vs, rfl, q, p⟩ := hv.scr
    refine call_len_seq pins s σ H _ us Q I r ⟨a, vs, rfl, .inl (by rw [hK]; exact q), ?_⟩
    rw [p.length]
    exact Out.val (Post.pure.mp hp) (.int _) rfl
  | tup l =>
    obtain ⟨a, vs, rfl, q, p⟩ := hv.tup
    refine call_len_seq pins s σ H _ us Q I r ⟨a, vs, rfl, .inr (by rw [hK]; exact q), ?_⟩
    rw [p.length]
    exact Out.val (Post.pure.mp hp) (.int _) rfl
  | str t =>
    obtain rfl := hv.str
    simp only [lenM] at hp
    split at hp
    · rename_i hz
      refine call_len_str pins s σ H _ us Q I r ⟨txt t, rfl, by rw [txt_len, ← sz_line]; exact hz, ?_⟩
      rw [txt_len]
      exact Out.val (Post.pure.mp hp) (.int _) rfl
    · exact hp.elim
  | _ => exact hp.elim
theorem ok_all (hc : X.calm = true) : CallR X (.builtin "all") (rC G .all) := by
  intro pins s σ H xs us Q I r h
  obtain ⟨pl, o, B, ds, old, hx, hp⟩ := h
  obtain ⟨d, rfl⟩ := blt1 (.inr (.inl rfl)) hp
  obtain ⟨v, rfl, hv⟩ := one_of hx
  cases d with
  | lst l =>
    simp only [bltM, blt1M, allM, anyM, sumM] at hp
    obtain ⟨a, vs, rfl, q, p⟩ := hv.lst
    split at hp
    · rename_i bs e
      obtain ⟨rfl, _⟩ := bls_of p e
      exact cr_all hc pins s σ H _ us Q I r ⟨a, bs, rfl, .inl (.inl q), Out.val (Post.pure.mp hp) (.bl _) rfl⟩
    · exact hp.elim
  | _ => exact hp.elim
theorem ok_sum (hc : X.calm = true) : CallR X (.builtin "sum") (rC G .sum) := by
  intro pins s σ H xs us Q I r h
  obtain ⟨pl, o, B, ds, old, hx, hp⟩ := h
  obtain ⟨d, rfl⟩ := blt1 (.inr (.inr (.inr (.inl rfl)))) hp
  obtain ⟨v, rfl, hv⟩ := one_of hx
  cases d with
  | lst l =>
    simp only [bltM, blt1M, allM, anyM, sumM] at hp
    obtain ⟨a, vs, rfl, q, p⟩ := hv.lst
    split at hp
    · rename_i bs e
      obtain ⟨rfl, _⟩ := ints_of' p e
      exact cr_sum hc pins s σ H _ us Q I r ⟨a, bs, rfl, .inl (.inl q), Out.val (Post.pure.mp hp) (.int _) rfl⟩
    · exact hp.elim
  | _ => exact hp.elim
theorem up_of_sortedS : ∀ {ys : List PySem.Str}, PyProof.Rows.sortedS ys = true → UpT (ys.map fun y => y.cps.toList)
  | [], _ => .nil
  | x :: r, h => by
    have key : ∀ (r : List PySem.Str) (p : PySem.Str), PyProof.Rows.risingS p r = true → (∀ b ∈ r.map (fun y => y.cps.toList), ltT b p.cps.toList = false) ∧ UpT (r.map fun y => y.cps.toList) := by
      intro r
      induction r with
      | nil => intro p _; exact ⟨fun b hb => by simp at hb, .nil⟩
      | cons y r ih =>
        intro p h
        unfold PyProof.Rows.risingS at h
        rw [Bool.and_eq_true, Bool.not_eq_true'] at h
        obtain ⟨h1, h2⟩ := ih y h.2
        have h0 : ltT y.cps.toList p.cps.toList = false := by
          rw [ltT_eq]
          have := h.1
          rw [PyProof.Rows.ltCps_eq] at this
          exact this
        refine ⟨fun b hb => ?_, List.pairwise_cons.mpr ⟨h1, h2⟩⟩
        rcases List.mem_cons.mp hb with e | hb
        · rw [e]; exact h0
        · exact leT_trans h0 (h1 b hb)
    obtain ⟨h1, h2⟩ := key r x h
    exact List.pairwise_cons.mpr ⟨h1, h2⟩
theorem map_txt (ys : List PySem.Str) : (ys.map fun y => y.cps.toList).map txt = ys := by
  rw [List.map_map]
  conv => rhs; rw [← List.map_id ys]
  apply List.map_congr_left
  intro y _
  show txt y.cps.toList = y
  apply PySem.Str.ext'
  simp
theorem ok_tuple (hK : X.K = G.K) : CallR X (.type "tuple") (rC G .tuple) := by
  intro pins s σ H xs us Q I r h
  obtain ⟨pl, o, B, ds, old, hx, hp⟩ := h
  obtain ⟨d, rfl⟩ := blt1 (.inr (.inr (.inr (.inr (.inr (.inr (.inl rfl))))))) hp
  obtain ⟨v, rfl, hv⟩ := one_of hx
  simp only [bltM, blt1M] at hp
  cases d with
  | lst l =>
    obtain ⟨a, vs, rfl, q, p⟩ := hv.lst
    exact call_tuple_of pins s σ H _ us Q I r ⟨a, vs, rfl, .inl ⟨.inl (.inl q), fun p' hn => Out.newT (Post.pure.mp hp) p hn⟩⟩
  | tup l =>
    obtain ⟨a, vs, rfl, q, p⟩ := hv.tupH
    exact call_tuple_of pins s σ H _ us Q I r ⟨a, vs, rfl, .inr ⟨.inl (.inl q), Out.val (Post.pure.mp hp) (.tup q p) rfl⟩⟩
  | _ => exact hp.elim
theorem ok_int : CallR X (.type "int") (rC G .int1) := by
  intro pins s σ H xs us Q I r h
  obtain ⟨pl, o, B, ds, old, hx, hp⟩ := h
  obtain ⟨d, rfl⟩ := blt1 (.inr (.inr (.inr (.inr (.inr (.inr (.inr (.inl rfl)))))))) hp
  obtain ⟨v, rfl, hv⟩ := one_of hx
  simp only [bltM, blt1M] at hp
  cases d with
  | int i =>
    obtain rfl := hv.int
    exact call_int1 pins s σ H _ us Q I r (.inl ⟨i, rfl, Out.val (Post.pure.mp hp) (.int _) rfl⟩)
  | bl b =>
    obtain rfl := hv.bl
    exact call_int1 pins s σ H _ us Q I r (.inr ⟨b, rfl, Out.val (Post.pure.mp hp) (.int _) rfl⟩)
  | _ => exact hp.elim
def tyD : String → D → Bool
  | "str", .str _ => true
  | "list", .lst _ => true
  | _, _ => false
def rM (G : Glob) (f : MF) (T : String) : V → List V → Hp → VK → Prop := fun x xs H Q => ∃ (pl : Pl) (o : Objs) (B : Addr → Prop) (dx : D) (ds : List D), (∀ a, B a → H a ≠ none) ∧ RT G pl o H B x dx ∧ Paired (fun v d => RT G pl o H B v d) xs ds ∧ tyD T dx = true ∧
  Post (mthM f dx ds) o (fun d _ => Out G pl B H Q d) fun _ _ => False
theorem mth1 {f : MF} {x : D} {ds : List D} {o : Objs} {P : D → Objs → Prop} (hf : f ≠ .get) (h : Post (mthM f x ds) o P fun _ _ => False) : ∃ d, ds = [d] := by
  rcases ds with _ | ⟨d, _ | ⟨e, _ | ⟨g, r⟩⟩⟩
  · exact h.elim
  · exact ⟨d, rfl⟩
  · cases f <;> first | exact h.elim | exact absurd rfl hf
  · exact h.elim
theorem joinT_eq (S : List Nat) : ∀ l : List (List Nat), joinT S l = TL.joinL S l
  | [] => rfl
  | [a] => rfl
  | a :: b :: r => by
    show a ++ S ++ joinT S (b :: r) = a ++ (S ++ TL.joinL S (b :: r))
    rw [joinT_eq S (b :: r), List.append_assoc]
theorem map_tl_txt (bs : List (List Nat)) : (bs.map txt).map TL.tl = bs := by
  rw [List.map_map]
  conv => rhs; rw [← List.map_id bs]
  apply List.map_congr_left
  intro b _
  rfl
theorem ok_join : MtR X "str.join" (rM G .join "str") := by
  intro pins s σ H x xs v us Q I rx rs h
  obtain ⟨pl, o, B, dx, ds, old, hx, hxs, ty, hp⟩ := h
  obtain ⟨d, rfl⟩ := mth1 (by intro z; cases z) hp
  obtain ⟨y, rfl, hy⟩ := one_of hxs
  simp only [mthM] at hp
  cases dx with
  | str t =>
    cases d with
    | lst l =>
      simp only [joinM] at hp
      obtain rfl := hx.str
      obtain ⟨a, vs, rfl, q, p⟩ := hy.lst
      split at hp
      · rename_i bs e
        split at hp
        · rename_i hz
          obtain ⟨rfl, _⟩ := strs_of p e
          refine mt_join pins s σ H _ _ v us Q I rx rs ⟨txt t, a, bs.map txt, rfl, rfl, .inl (.inl (.inl q)), ?_, ?_⟩
          · have e1 : ((bs.map txt).map (·.length)) = bs.map List.length := by
              rw [List.map_map]
              apply List.map_congr_left
              intro b _
              exact txt_len b
            rw [e1, List.length_map, txt_len]
            exact hz
          · have e2 : Txt.join (txt t) (bs.map txt) = txt (joinT t bs) := by
              apply TL.ext_tl
              rw [TL.join_eq, TL.tl_join, map_tl_txt, joinT_eq]
            rw [e2]
            exact Out.val (Post.pure.mp hp) (.str _) rfl
        · exact hp.elim
      · exact hp.elim
    | _ => exact hp.elim
  | _ => cases d <;> exact hp.elim
theorem findT_some {c : Nat} : ∀ {l : List Nat} {k : Nat}, findT c l = some k → l[k]? = some c ∧ ∀ j, j < k → l[j]? ≠ some c
  | [], k, e => by cases e
  | a :: r, k, e => by
    unfold findT at e
    split at e
    · rename_i h
      cases e
      subst h
      exact ⟨rfl, fun j hj => absurd hj (Nat.not_lt_zero _)⟩
    · rename_i h
      cases e1 : findT c r with
      | none => rw [e1] at e; cases e
      | some m =>
        rw [e1] at e
        cases e
        obtain ⟨h1, h2⟩ := findT_some e1
        refine ⟨by simpa using h1, fun j hj => ?_⟩
        cases j with
        | zero => simpa using h
        | succ j =>
          have hj : j + 1 < m + 1 := hj
          simpa using h2 j (by omega)
theorem at_sign {l : List Nat} {c i : Nat} : StrLaws.At (txt l) (txt [c]) (txt l).length i ↔ l[i]? = some c := by
  rw [TL.at_iff (by simp)]
  show ((l.drop i).take 1 == [c]) = true ↔ _
  rw [beq_iff_eq]
  constructor
  · intro h
    cases e : l.drop i with
    | nil => rw [e] at h; cases h
    | cons a r =>
      rw [e] at h
      have : a = c := by simpa using h
      subst this
      have z := List.getElem?_drop (xs := l) (i := i) (j := 0)
      rw [e] at z
      simpa using z.symm
  · intro h
    obtain ⟨h1, h2⟩ := List.getElem?_eq_some_iff.mp h
    rw [List.drop_eq_getElem_cons h1, h2]
    rfl
theorem ok_index : MtR X "str.index" (rM G .index "str") := by
  intro pins s σ H x xs v us Q I rx rs h
  obtain ⟨pl, o, B, dx, ds, old, hx, hxs, ty, hp⟩ := h
  obtain ⟨d, rfl⟩ := mth1 (by intro z; cases z) hp
  obtain ⟨y, rfl, hy⟩ := one_of hxs
  simp only [mthM] at hp
  cases dx with
  | str t =>
    cases d with
    | str l =>
      rcases l with _ | ⟨c, _ | ⟨c2, r⟩⟩
      · exact hp.elim
      · simp only [indexM] at hp
        obtain rfl := hx.str
        obtain rfl := hy.str
        split at hp
        · rename_i k e
          obtain ⟨h1, h2⟩ := findT_some e
          have hd := StrLaws.occ_head (txt t) (txt [c]) 1 (Nat.le_refl _)
          obtain ⟨rest, ho⟩ : ∃ rest, Builtin.Str.occurrences (txt t) (txt [c]) 0 (txt t).length 1 = k :: rest := by
            rcases hd with ⟨_, hn⟩ | ⟨i, rest, ho, hi, hn⟩
            · exact absurd (at_sign.mpr h1) (hn k)
            · have hi := at_sign.mp hi
              have : i = k := by
                rcases Nat.lt_trichotomy i k with z | z | z
                · exact absurd hi (h2 i z)
                · exact z
                · exact absurd (at_sign.mpr h1) (hn k z)
              subst this
              exact ⟨rest, ho⟩
          exact mt_sindex pins s σ H _ _ v us Q I rx rs ⟨txt t, txt [c], k, rest, rfl, rfl, ho, Out.val (Post.pure.mp hp) (.int _) rfl⟩
        · exact hp.elim
      · exact hp.elim
    | _ => exact hp.elim
  | lst l => cases ty
  | _ => cases d <;> exact hp.elim
def tyName : Ty → String
  | .str => "str" | .tuple => "tuple" | .int => "int" | .bool => "bool" | .list => "list" | .valueError _ => "ValueError" | .cls _ _ => "" | .clsH _ _ _ => "" | .vErrH _ _ => ""
theorem tyx_of {pl : Pl} {o : Objs} {H : Hp} {B : Addr → Prop} {v : V} {d : D} (hK : X.K = G.K) (h : RT G pl o H B v d) :
    (match d with | .non => TyX X.K H v (.type "NoneType") | .bl _ => TyX X.K H v (.type "bool") | .int _ => TyX X.K H v (.type "int") | .str _ => TyX X.K H v (.type "str") | .tup _ => TyX X.K H v (.type "tuple") | .lst _ => TyX X.K H v (.type "list") | _ => True) := by
  cases d with
  | non => obtain rfl := h.non; exact .base .non
  | bl b => obtain rfl := h.bl; exact .base (.bl _)
  | int i => obtain rfl := h.int; exact .base (.int _)
  | str s => obtain rfl := h.str; exact .base (.str _)
  | tup l =>
    obtain ⟨a, vs, rfl, q, p⟩ := h.tup
    rw [← hK] at q
    rcases q with (q | ⟨ob, q⟩) | ⟨ob, its, n, q, c, _⟩
    · exact .base (.tup q)
    · exact .fTuple q
    · exact .kTuple q c
  | lst l =>
    obtain ⟨a, vs, rfl, q, p⟩ := h.lst
    exact .base (.lst q)
  | _ => trivial
def rIs (G : Glob) (t : Ty) : List V → Hp → VK → Prop := fun xs H Q => ∃ (pl : Pl) (o : Objs) (B : Addr → Prop) (d : D) (v : V), xs = [v, .ty (tyName t)] ∧ RT G pl o H B v d ∧ Post (isD d t) o (fun b _ => Q (.bl b) H) fun _ _ => False
theorem ok_isB (hK : X.K = G.K) {t : Ty} (ht : t = .str ∨ t = .tuple ∨ t = .int ∨ t = .bool ∨ t = .list) : CallR X (.builtin "isinstance") (rIs G t) := by
  intro pins s σ H xs us Q I r h
  obtain ⟨pl, o, B, d, v, rfl, hv, hp⟩ := h
  have ty := tyx_of (X := X) hK hv
  have go : ∀ (T : String) (b : Bool), TyX X.K H v (.type T) → kitB T (tyName t) = some b → Q (.bl b) H → wpAny (model X.prog X.w) X.A (call (.builtin "isinstance") us) (EP X pins σ Q) X.xe s :=
    fun T b h1 h2 q => call_isi pins s σ H _ us Q I r ⟨v, .ty (tyName t), .type T, .type (tyName t), b, rfl, .ty _, h1, kit_ty h2, q⟩
  cases d with
  | non => rcases ht with rfl | rfl | rfl | rfl | rfl <;> exact go "NoneType" _ ty (by decide +kernel) hp
  | bl b => rcases ht with rfl | rfl | rfl | rfl | rfl <;> exact go "bool" _ ty (by decide +kernel) hp
  | int i => rcases ht with rfl | rfl | rfl | rfl | rfl <;> exact go "int" _ ty (by decide +kernel) hp
  | str i => rcases ht with rfl | rfl | rfl | rfl | rfl <;> exact go "str" _ ty (by decide +kernel) hp
  | tup i => rcases ht with rfl | rfl | rfl | rfl | rfl <;> exact go "tuple" _ ty (by decide +kernel) hp
  | lst i => rcases ht with rfl | rfl | rfl | rfl | rfl <;> exact go "list" _ ty (by decide +kernel) hp
  | _ => rcases ht with rfl | rfl | rfl | rfl | rfl <;> exact hp.elim
end
end WB
namespace WB
open PySem PySem.Spec PyProof.Rows L2
def entS (e : Int × Value) : PySem.Str := match e.2 with
  | .str x _ => x
  | _ => PySem.Str.empty
def EntS (w : World) (e : Int × Value) : Prop := ∃ x tk, e.2 = Value.str x tk ∧ e.1 = hashStr w x
structure SetS (w : World) (h : Heap) (a : Addr) (S : PySem.Str → Prop) (n : Nat) : Prop where
  ex : ∃ (ob : Obj) (es : Array (Int × Value)) (ep : Nat) (t : SetTable), h.get? a = some ob ∧ ob.ExactSet ∧ ob.data = .set es ep t ∧ (∀ e ∈ es.toList, EntS w e) ∧ (es.toList.map entS).Nodup ∧ (∀ k, S k ↔ k ∈ es.toList.map entS) ∧
    es.size ≤ n ∧ t.fits es.size = true ∧ Ris t.place.toList ∧ (w.params.followText "set-order" = true ∨ t.led = true)
section
variable {P : Program} {w : World} {A : Around} {E : Value → Shared → Prop} {s : Shared} {a : Addr} {S : PySem.Str → Prop} {n : Nat}
theorem SetS.at {h h' : Heap} (R : SetS w h a S n) (k : ∀ ob, h.get? a = some ob → h'.get? a = some ob) : SetS w h' a S n := by
  obtain ⟨ob, es, ep, t, ho, r⟩ := R.ex
  exact ⟨ob, es, ep, t, k ob ho, r⟩
theorem entS_elems {l : List (Int × Value)} (g : ∀ e ∈ l, EntS w e) : ElemsOf (strKind P w) l := fun e he => by
  obtain ⟨x, tk, h1, h2⟩ := g e he
  refine ⟨⟨x, ?_, h2⟩, ?_⟩
  · rw [h1]; exact strKind_is P w x tk
  · rw [h1]; rfl
theorem entS_is {e : Int × Value} (g : EntS w e) (k : PySem.Str) : (strKind P w).is k e.2 = true ↔ entS e = k := by
  obtain ⟨x, tk, h1, _⟩ := g
  unfold entS
  rw [h1, KeyKind.is_eq_decide (strKind_is P w x tk)]
  show decide (k = x) = true ↔ x = k
  rw [decide_eq_true_eq]
  exact eq_comm
theorem entS_mem {l : List (Int × Value)} (g : ∀ e ∈ l, EntS w e) (k : PySem.Str) : k ∈ l.map entS ↔ ∃ e ∈ l, (strKind P w).is k e.2 = true := by
  constructor
  · intro h
    obtain ⟨e, he, q⟩ := List.mem_map.mp h
    exact ⟨e, he, (entS_is (g e he) k).mpr q⟩
  · rintro ⟨e, he, q⟩
    exact List.mem_map.mpr ⟨e, he, (entS_is (g e he) k).mp q⟩
theorem setS_tail {gw : Bool → Sem Unit} (hg : ∀ (b : Bool) (s₁ : Shared) (Q' : Unit → Shared → Prop), Q' () s₁ → wpAny (model P w) A (gw b) Q' E s₁)
    {ob : Obj} {es : Array (Int × Value)} {ep : Nat} {t : SetTable} (ho : s.heap.get? a = some ob) (hx : ob.ExactSet) (hd : ob.data = .set es ep t)
    {es1 : Array (Int × Value)} {t2 : SetTable} {S' : PySem.Str → Prop} (g1 : ∀ e ∈ es1.toList, EntS w e) (n1 : (es1.toList.map entS).Nodup) (m1 : ∀ k, S' k ↔ k ∈ es1.toList.map entS) (z1 : es1.size ≤ n)
    (b1 : es1.size < scanBound) (f1 : t2.fits es1.size = true) (r1 : Ris t2.place.toList) (l1 : w.params.followText "set-order" = true ∨ t2.led = true) {wd : Bool} {R : Option Bool → Shared → Prop}
    (hR : ∀ h', Heap.SameBut a s.heap h' → SetS w h' a S' n → R (some true) { s with heap := h' }) :
    wpAny (model P w) A (do
        storeSet a es1 t2
        if (!wd && t2.tooFull) = true then do
            gw (relayAll t2 es1 (SetTable.grown es1.size)).2.2
            storeSet a (relayAll t2 es1 (SetTable.grown es1.size)).1 (relayAll t2 es1 (SetTable.grown es1.size)).2.1
            pure (some true)
          else pure (some true)) R E s := by
  refine wpAny_bind (wpAny_storeSet_of ho hd ?_ (fits_of_scanBound b1))
  have o1 := store_at (es' := es1) (t' := t2) ho hd
  have s1 := Heap.SameBut.update s.heap a (Obj.putSet es1 t2)
  split
  · have q1 := relayAll_perm t2 es1 (SetTable.grown es1.size)
    have q2 := relayAll_fits t2 es1 (SetTable.grown es1.size)
    have q3 := relayAll_ris t2 es1 (SetTable.grown es1.size)
    have q4 := relayAll_led t2 es1 (SetTable.grown es1.size)
    generalize relayAll t2 es1 (SetTable.grown es1.size) = Z at q1 q2 q3 q4 ⊢
    obtain ⟨es2, t3, gv⟩ := Z
    dsimp only at q1 q2 q3 q4 ⊢
    have e2 : es2.size = es1.size := by rw [← Array.length_toList, q1.length_eq, Array.length_toList]
    refine wpAny_bind (hg _ _ _ ?_)
    refine wpAny_bind (wpAny_storeSet_of o1 rfl ?_ (fits_of_scanBound (by rw [e2]; exact b1)))
    have o2 := store_at (es' := es2) (t' := t3) o1 rfl
    refine wpAny_pure (hR _ (s1.trans (Heap.SameBut.update _ a _)) ⟨_, es2, _, t3, o2, hx, rfl, fun e he => g1 e (q1.mem_iff.mp he), (q1.map entS).nodup_iff.mpr n1, fun k => (m1 k).trans (q1.map entS).mem_iff.symm, by rw [e2]; exact z1, q2, q3, ?_⟩)
    exact l1.imp id fun z => by rw [q4]; exact z
  · exact wpAny_pure (hR _ s1 ⟨_, es1, _, t2, o1, hx, rfl, g1, n1, m1, z1, f1, r1, l1⟩)
theorem setS_add {k : PySem.Str} {tk : Tok} {Q : Bool → Shared → Prop} (R : SetS w s.heap a S n) (room : n + 1 < scanBound)
    (hQ : ∀ h' c, Heap.SameBut a s.heap h' → SetS w h' a (fun j => S j ∨ j = k) (n + 1) → Q c { s with heap := h' }) :
    wpAny (model P w) A (setAddHashed a (.str k tk) ((strKind P w).hash k)) Q E s := by
  obtain ⟨ob, es, ep, t, ho, hx, hd, g, nd, hm, hz, hf, hr, hl⟩ := R.ex
  have kk : (strKind P w).is k (.str k tk) = true := strKind_is P w k tk
  have sc : (Value.str k tk).scannable = true := rfl
  have el : ElemsOf (strKind P w) es.toList := entS_elems g
  have hb : es.size < scanBound := by omega
  unfold setAddHashed setAddHashedIn
  refine wpAny_holding (wpAny_bind (wpAny_setState_of ho hd hf ?_))
  dsimp only
  rw [byScan_of sc hb el]
  simp only [↓reduceIte]
  unfold setAddByScan
  refine wpAny_bind (wpAny_bind (wpAny_rule (wpAny_bind (wpAny_setScan_of kk ho hd hf el ?_))))
  cases fi : List.findIdx? (fun e => (strKind P w).is k e.2) es.toList with
  | some j =>
    dsimp only
    obtain ⟨hj, pj, _⟩ := List.findIdx?_eq_some_iff_getElem.mp fi
    have hk : S k := (hm k).mpr ((entS_mem (P := P) (w := w) g k).mpr ⟨es.toList[j], List.getElem_mem hj, pj⟩)
    refine wpAny_pure (wpAny_pure (hQ s.heap _ (Heap.SameBut.refl a s.heap) ⟨ob, es, ep, t, ho, hx, hd, g, nd, fun i => ?_, by omega, hf, hr, hl⟩))
    rw [← hm i]
    exact ⟨fun z => z.elim id fun e => e ▸ hk, .inl⟩
  | none =>
    dsimp only
    have nk : k ∉ es.toList.map entS := fun z => by
      obtain ⟨e, he, q⟩ := (entS_mem (P := P) (w := w) g k).mp z
      have c := List.findIdx?_eq_none_iff.mp fi e he
      rw [q] at c
      cases c
    have gwy : ∀ (b : Bool) {s₁ : Shared} {Q' : Unit → Shared → Prop}, Q' () s₁ → wpAny (model P w) A (match b with | true => rule "set.scan.the-table-gave-way" | false => pure ()) Q' E s₁ :=
      fun b s₁ Q' q => by cases b <;> first | exact wpAny_pure q | exact wpAny_rule q
    have q1 := layNew_perm t es ((strKind P w).hash k) (.str k tk)
    have q2 := layNew_fits t es ((strKind P w).hash k) (.str k tk)
    have q3 := layNew_ris t es ((strKind P w).hash k) (.str k tk) hr
    have q4 := layNew_led t es ((strKind P w).hash k) (.str k tk)
    generalize layNew t es ((strKind P w).hash k) (.str k tk) = Z at q1 q2 q3 q4 ⊢
    obtain ⟨es1, t1, wd, gv⟩ := Z
    dsimp only at q1 q2 q3 q4 ⊢
    rw [Array.toList_push] at q1
    have pc : es1.toList.Perm (((strKind P w).hash k, Value.str k tk) :: es.toList) := q1.trans (List.perm_append_singleton _ _)
    have pk : (es1.toList.map entS).Perm (k :: es.toList.map entS) := pc.map entS
    have g1 : ∀ e ∈ es1.toList, EntS w e := fun e he => by
      rcases List.mem_cons.mp (pc.mem_iff.mp he) with z | z
      · rw [z]; exact ⟨k, tk, rfl, rfl⟩
      · exact g e z
    have n1 : (es1.toList.map entS).Nodup := pk.nodup_iff.mpr (List.nodup_cons.mpr ⟨nk, nd⟩)
    have m1 : ∀ i, (S i ∨ i = k) ↔ i ∈ es1.toList.map entS := fun i => by
      rw [hm i, pk.mem_iff, List.mem_cons]
      exact Or.comm
    have zs : es1.size = es.size + 1 := by rw [← Array.length_toList, pc.length_eq, List.length_cons, Array.length_toList]
    have b1 : es1.size < scanBound := by omega
    have ld : w.params.followText "set-order" = true ∨ t1.led = true := hl.imp id fun z => by rw [q4]; exact z
    refine wpAny_bind (gwy _ ?_)
    split
    · refine wpAny_bind ?_
      rw [hashByValue_scannable 8 sc]
      refine wpAny_pure ?_
      refine setS_tail (n := n + 1) ?_ ho hx hd g1 n1 m1 (by omega) b1 ?_ ?_ ?_ ?_
      · intro b s₁ Q' q; cases b <;> first | exact wpAny_pure q | exact wpAny_rule q
      · first | (split <;> first | exact q2 | exact SetTable.fits_plain_off q2) | exact q2
      · first | (split <;> exact q3) | exact q3
      · first | (split <;> exact ld) | exact ld
      · intro h' sb r; dsimp only; exact wpAny_pure (hQ h' _ sb r)
    · refine wpAny_bind (wpAny_pure ?_)
      simp only [↓reduceIte]
      refine setS_tail (n := n + 1) ?_ ho hx hd g1 n1 m1 (by omega) b1 q2 q3 ld ?_
      · intro b s₁ Q' q; cases b <;> first | exact wpAny_pure q | exact wpAny_rule q
      · intro h' sb r; dsimp only; exact wpAny_pure (hQ h' _ sb r)
theorem setS_walk {it : Addr} {fp wr : List Addr} {Gg : Array GenState → Array GenState → Prop} {len : Nat} {Pv : Nat → Value → Prop} {St : Nat → Shared → Prop} {R : Result → Shared → Prop}
    (Wk : WalksS P w A.in1 it fp wr Gg len Pv St) (a : Addr) (out : a ∉ fp) (xs : List PySem.Str) (hlen : len = xs.length) (room : xs.length + 1 < scanBound) (val : ∀ i v, Pv i v → ∃ x t, xs[i]? = some x ∧ v = .str x t) :
    ∀ (k i : Nat) (s : Shared), len - i = k → i ≤ len → St i s → SetS w s.heap a (fun x => x ∈ xs.take i) i →
      (∀ s', Moved (a :: wr) Gg s s' → SetS w s'.heap a (fun x => x ∈ xs) len → R (.ok (.ret .none)) s') → codeAny (model P w) A (.builtin "set.update.loop" ⟨[.ref a, .ref it], []⟩) R s := by
  have nw : a ∉ wr := fun z => out (Wk.sub _ z)
  have more : ∀ b ∈ wr, b ∈ a :: wr := fun b z => List.mem_cons_of_mem _ z
  intro k
  induction k with
  | zero =>
    intro i s e0 il st0 T fin
    obtain rfl : i = len := by omega
    refine codeAny_builtin (F.entry_set_update_loop) ?_
    rw [Around.under_plainId (F.plain_set_update_loop) _]
    show wpAny _ A.in1 (pyNext (.ref it) >>= _) _ _ s
    refine wpAny_bind (Wk.done s _ _ st0 fun s1 mv => ?_)
    show wpAny _ A.in1 (ret (Value.none)) _ _ s1
    have et : xs.take i = xs := List.take_of_length_le (by omega)
    rw [et] at T
    exact wpAny_pure (fin s1 (mv.mono more) (T.at fun o z => mv.heap a o nw z))
  | succ k ih =>
    intro i s e0 il st0 T fin
    have lt : i < len := by omega
    refine codeAny_builtin (F.entry_set_update_loop) ?_
    rw [Around.under_plainId (F.plain_set_update_loop) _]
    show wpAny _ A.in1 (pyNext (.ref it) >>= _) _ _ s
    refine wpAny_bind (Wk.item i s _ _ lt st0 fun v s1 pv st1 mv => ?_)
    obtain ⟨x, t, hx, rfl⟩ := val i v pv
    have T1 : SetS w s1.heap a (fun x => x ∈ xs.take i) i := T.at fun o z => mv.heap a o nw z
    show wpAny _ A.in1 (holding [Value.str x t] (setAdd a (.str x t)) >>= _) _ _ s1
    refine wpAny_bind (wpAny_holding ?_)
    unfold setAdd
    refine wpAny_holding (wpAny_bind ((strKind P w).pyHash (k := x) (strKind_is _ _ _ _) ?_))
    refine setS_add (s := { s1 with toks := s1.toks + 1 }) T1 (by omega) fun h2 c sb T2 => ?_
    have T3 : SetS w h2 a (fun y => y ∈ xs.take (i + 1)) (i + 1) := by
      obtain ⟨ob, es, ep, tt, r1, r2, r3, r4, r5, r6, r7⟩ := T2.ex
      refine ⟨ob, es, ep, tt, r1, r2, r3, r4, r5, fun y => ?_, r7⟩
      rw [← r6 y, List.take_add_one, hx]
      simp [List.mem_append]
    refine wpAny_pure ⟨plainId_quiet (F.plain_set_update_loop) _, ih (i + 1) _ (by omega) lt (Wk.frame _ s1 _ _ st1 (Nat.le_succ _) fun b hb o z => ?_) T3 fun s3 mv3 T4 => ?_⟩
    · rw [sb.2 b (fun q : b = a => out (q ▸ hb))]; exact z
    · refine fin s3 (Moved.trans Wk.gtrans ((mv.mono more).then_heap (Nat.le_succ _) fun b o hb z => ?_) mv3) T4
      rw [sb.2 b (fun q : b = a => hb (by rw [q]; exact List.mem_cons_self))]; exact z
abbrev set0 (w : World) : Obj := { cls := .type "set", dict := none, data := .set #[] 0 (.fresh 0 0 (!w.params.followText "set-order")) }
theorem setS_new {h : Heap} (e : h.get? a = some (set0 w)) : SetS w h a (fun x => x ∈ ([] : List PySem.Str)) 0 := by
  refine ⟨set0 w, #[], 0, _, e, ⟨rfl, rfl, rfl⟩, rfl, by simp, by simp, by simp, by simp, rfl, List.Pairwise.nil, ?_⟩
  show w.params.followText "set-order" = true ∨ (!w.params.followText "set-order") = true
  cases w.params.followText "set-order" with
  | true => exact .inl rfl
  | false => exact .inr rfl
theorem call_setL {l : Addr} {items : Array Value} (xs : List PySem.Str) {Q : Value → Shared → Prop} (hh : A.handled = none) (hl : s.heap.IsList l items) (it : StrsAre items.toList xs) (room : xs.length + 1 < scanBound)
    (h : ∀ (h' : Heap) (tk : Nat), SetS w h' s.heap.objs.size (fun x => x ∈ xs) xs.length → (∀ b o, s.heap.get? b = some o → h'.get? b = some o) → Q (.ref s.heap.objs.size) { s with heap := h', toks := tk }) :
    wpAny (model P w) A (call (.type "set") [.ref l]) Q E s := by
  have sz1 : items.size = xs.length := by
    have q := StrsAre.length it
    rwa [Array.length_toList] at q
  obtain ⟨cc, tl, mro⟩ := F.called_set.mro
  have m1 := F.called_set.made
  have m2 := F.called_set.sub
  refine wpAny_call (codeAny_of_tree ?_); show wpAny _ _ (callAny (.type "set") _) _ _ _
  refine wpAny_pure ⟨Code.quiet_builtin _ (by decide +kernel), codeAny_builtin (F.entry_type_call) ?_⟩
  rw [Around.under_plain (weight_type_call_type "set" [Value.ref l] []) rfl]
  have m3 := F.called_set.notType
  have m4 := F.called_set.canCreate
  have m5 := F.typeCall_set_1 (.ref l)
  repeat (any_goals (first | assumption | wp_step))
  refine codeAny_mono (code_set_led1 (.ref l) (E := E) (Q₁ := fun u t => u = .ref s.heap.objs.size ∧ t = { s with heap := s.heap.push (set0 w) }) ⟨rfl, rfl⟩) fun r t hr => ?_
  cases r with
  | error e => exact hr
  | ok fl =>
    cases fl with
    | ret u =>
      obtain ⟨rfl, rfl⟩ := hr
      have g0 : (s.heap.push (set0 w)).get? s.heap.objs.size = some (set0 w) := Heap.get?_push_size _ rfl
      have T0 : Shared.TypeIs { s with heap := s.heap.push (set0 w) } (.ref s.heap.objs.size) "set" := ⟨_, g0, rfl⟩
      have m6 := F.called_set.init.lookup
      have m7 := F.called_set.init.bind (.ref s.heap.objs.size)
      repeat (any_goals (first | assumption | wp_step))
      refine codeAny_mono (codeAny_call_builtin (R := wants (fun r t => r = .none ∧ ∃ h' tk, t = { s with heap := h', toks := tk } ∧ SetS w h' s.heap.objs.size (fun x => x ∈ xs) xs.length ∧ (∀ b o, s.heap.get? b = some o → h'.get? b = some o)) E) F.called_set.init.plain F.entry_set_init (check_set_init_1 T0 ?_)) fun r2 t2 hr2 => ?_
      · obtain ⟨ol, g1, c1, nl, d1⟩ := hl
        obtain ⟨oc, od, oda, osl⟩ := ol
        dsimp only at c1 d1
        subst c1 d1
        have g2 : (s.heap.push (set0 w)).get? l = some { cls := .type "list", dict := od, data := .seq items nl, slots := osl } := Heap.get?_push_of_some _ g1
        have n1 := F.sub_list_set
        have n2 := F.sub_list_frozenset
        have n3 : (Value.type "list" == Value.type "dict") = false := by decide +kernel
        have l1 : (s.heap.push (set0 w)).IsList l items := ⟨_, g2, rfl, nl, rfl⟩
        unfold Builtin.«set.__init__» noKeywords Builtin.Frozenset.updateFrom
        generalize hPI : pyIter = PI
        wp_walk
        subst hPI
        refine wpAny_pyIter_list l1 (wpAny_bind (wpAny_runValue ?_))
        have lS : l < s.heap.objs.size := Heap.lt_size g1
        have h3 : A.in1.in1.in1.handled = none := by simp [hh]
        have z1 : (s.heap.push (set0 w)).objs.size = s.heap.objs.size + 1 := Heap.size_push ..
        have nI : l ≠ (s.heap.push (set0 w)).objs.size := by rw [z1]; exact Nat.ne_of_lt (Nat.lt_succ_of_lt lS)
        have nS : s.heap.objs.size ∉ [(s.heap.push (set0 w)).objs.size, l] := by
          rw [z1]
          simp only [List.mem_cons, List.not_mem_nil, or_false, not_or]
          exact ⟨Nat.ne_of_lt (Nat.lt_succ_self _), Nat.ne_of_gt lS⟩
        have val : ∀ (i : Nat) (v : Value), items[i]? = some v → ∃ x t, xs[i]? = some x ∧ v = .str x t := fun i v hv => by
          obtain ⟨y, t, e1, e2⟩ := StrsAre.item it i v (by rw [Array.getElem?_toList]; exact hv)
          exact ⟨y, t, e2, e1⟩
        refine setS_walk ((Walks.list h3 _ l nI items).toS) s.heap.objs.size nS xs sz1 room val (items.size - 0) 0 _ (by omega) (Nat.zero_le _) ⟨⟨_, Heap.get?_push_size _ rfl, rfl, rfl⟩, (l1.push _)⟩ ?_ ?_
        · exact setS_new (Heap.get?_push_of_some _ g0)
        · intro t mv T
          obtain ⟨h', g', d', tk', os'⟩ := t
          have e1 : g' = s.gens := mv.gens
          have e2 : d' = s.drawn := mv.drawn
          have e3 : os' = s.os := mv.os
          subst e1 e2 e3
          show wpAny _ _ _ _ _ _
          refine wpAny_pure ?_
          show wpAny _ _ (ret (Value.none)) _ _ _
          rw [sz1] at T
          refine wpAny_pure ⟨rfl, h', tk', rfl, T, fun b o e => ?_⟩
          have hb : b < s.heap.objs.size := Heap.lt_size e
          exact mv.heap b o (by rw [z1]; simp only [List.mem_cons, List.not_mem_nil, or_false, not_or]; exact ⟨Nat.ne_of_lt hb, Nat.ne_of_lt (Nat.lt_succ_of_lt hb)⟩) (Heap.get?_push_of_some _ (Heap.get?_push_of_some _ e))
      · cases r2 with
        | error e => exact hr2
        | ok fl2 =>
          cases fl2 with
          | ret u =>
            obtain ⟨rfl, h', tk, rfl, T, kk⟩ := hr2
            repeat (any_goals (first | assumption | wp_step))
            exact h _ _ T kk
          | _ => exact hr2.elim
    | _ => exact hr.elim
end
end WB
namespace WB
open PySem L2
def Cm {α : Type} (x : M α) : Prop := (∃ a, x = pure a) ∨ x = M.fail
theorem Cm.pure {α : Type} {a : α} : Cm (pure a : M α) := .inl ⟨a, rfl⟩
theorem Cm.fail {α : Type} : Cm (M.fail : M α) := .inr rfl
theorem Cm.ite {α : Type} {c : Prop} [Decidable c] {x y : M α} (hx : Cm x) (hy : Cm y) : Cm (if c then x else y) := by
  split
  · exact hx
  · exact hy
theorem Cm.bind {α β : Type} {x : M α} {f : α → M β} (hx : Cm x) (hf : ∀ a, Cm (f a)) : Cm (x >>= f) := by
  rcases hx with ⟨a, rfl⟩ | rfl
  · exact hf a
  · exact .inr rfl
theorem Cm.post {α : Type} {x : M α} (h : Cm x) {o : Objs} {P : α → Objs → Prop} {E : Nat → Objs → Prop} (p : Post x o P E) : ∃ a, x = Pure.pure a ∧ P a o := by
  rcases h with ⟨a, rfl⟩ | rfl
  · exact ⟨a, rfl, p⟩
  · exact p.elim
theorem cm_eqM (x y : D) : Cm (eqM x y) := by
  unfold eqM
  split
  · exact .pure
  · exact .fail
theorem cm_inM (x y : D) : Cm (inM x y) := by
  unfold inM
  repeat' split
  all_goals first | exact .pure | exact .fail
theorem cm_ltT (a b : List D) : Cm (ltTM a b) := by
  unfold ltTM
  split
  · exact .pure
  · exact .fail
theorem cm_opM (op : B2) (x y : D) : Cm (opM op x y) := by
  unfold opM
  repeat' split
  all_goals first | exact .pure | exact .fail | exact cm_ltT _ _ | exact .bind (cm_eqM _ _) fun _ => .pure | exact .bind (cm_inM _ _) fun _ => .pure
theorem cm_idxM (x y : D) : Cm (idxM x y) := by
  unfold idxM
  repeat' split
  all_goals first | exact .pure | exact .fail
theorem cm_cutM (x : D) (lo hi : Option Int) : Cm (cutM x lo hi) := by
  unfold cutM
  repeat' split
  all_goals first | exact .pure | exact .fail
theorem cm_isD (x : D) (t : Ty) : Cm (isD x t) := by
  unfold isD
  repeat' split
  all_goals first | exact .pure | exact .fail
theorem cm_asB (x : D) : Cm x.asB := by
  unfold D.asB
  split
  · exact .pure
  · exact .fail
theorem cm_blt1 (f : BF) (x : D) : Cm (blt1M f x) := by
  unfold blt1M
  split
  all_goals first
    | exact .fail
    | (first | unfold sortTupM | unfold sortRM | unfold strM | unfold intTM | unfold sortSetSM | unfold sortSetIM | unfold lenSetIM | unfold sortSetTM | unfold sortTM | unfold minTM | unfold sortSM | unfold listSM | unfold lenM | unfold allM | unfold anyM | unfold sumM | unfold sortM | unfold sortSetM | unfold listM | unfold tupleM | unfold intOfM | unfold maxM | unfold minM | first | unfold dictM | unfold dictCM | unfold sortDM | unfold listDM)
      repeat' split
      all_goals first | exact .pure | exact .fail
theorem cm_blt2 (f : BF) (x y : D) : Cm (blt2M f x y) := by
  unfold blt2M
  split
  all_goals first
    | exact .fail
    | (first | unfold max2SM | unfold min2SM | unfold max2M | unfold min2M | unfold zipM)
      repeat' split
      all_goals first | exact .pure | exact .fail
theorem cm_blt (f : BF) (xs : List D) : Cm (bltM f xs) := by
  unfold bltM
  split
  · exact cm_blt1 _ _
  · exact cm_blt2 _ _ _
  · exact .fail
theorem cm_mth (f : MF) (x : D) (xs : List D) : Cm (mthM f x xs) := by
  unfold mthM
  split
  · split
    all_goals first
      | exact .fail
      | (first | unfold joinM | unfold splitM | unfold partM | unfold indexM | unfold countM | unfold countTM)
        repeat' split
        all_goals first | exact .pure | exact .fail
  · exact .fail
structure XO (G : Glob) (W : WX) (X : Cx) : Prop where
  K : X.K = G.K
  calm : X.calm = true
  nd : X.N.Nodup
  u : X.A.units + 64 < cLine
  tk : Takes X W
  pw : X.prog = G.P ∧ X.w = G.w
section
variable {G : Glob} {O : List Nat} {W : WX} {Φ : Fns} {X : Cx} {σ : L2.St} {H H' : Hp}
theorem KE.out {H1 : Hp} {f : Fs G O σ H} {f1 : Fs G O σ H1} (t : f.To f1) {sf fr : Bool} {Q : VK} {d : D} (h : KE G O f sf fr Q d f1.o) : Out G f1.pl f1.B H1 Q d := fun v H' e r n =>
  h v H' (f1.al e) (t.trans (f1.al_to e)) rfl ⟨.inl r, fun _ => r, fun _ l => let ⟨p, e1, e2, e3, e4⟩ := n l; ⟨p, e1, t.st.ext.dom p e2, e3, e4, f1.sr.obj.al e (fun a ha z => z.elim id fun q => absurd e2 (q ▸ ha)) fun a z => Bv.vol z⟩⟩
theorem e_slot {x : PySem.Str} {pos : Pos} (i : Nat) (hO : i ∉ O := by decide) (hN : X.N[i]? = some x := by rfl) (hv : Vis X.env.scope x := by first | exact .inl rfl | exact .inr (.inl rfl) | exact .inr (.inr rfl)) (hd : (x == ("__debug__" : PySem.Str)) = false := by decide) (hcd : (x == ("__classdict__" : PySem.Str)) = false := by decide) :
    PE X (.Name x pos) (TEv G O W Φ (.slot i) true false) := PE.imp (pe_var hN hv hd hcd) fun σ H Q ⟨f, h⟩ => by
  have h2 : Post (match f.m[i]? with | some (some d) => pure d | _ => M.fail) f.o (KE G O f true false Q) (KX G O W f) := h
  split at h2
  · rename_i d e
    obtain ⟨v, ev, r⟩ := f.sr.val i d hO e
    exact ⟨v, ev, h2 v H f (.refl f) rfl ⟨.inl r, fun _ => r, nofun⟩⟩
  · exact h2.elim
theorem e_own {x : PySem.Str} {pos : Pos} (i : Nat) (hO : i ∈ O := by decide) (hN : X.N[i]? = some x := by rfl) (hv : Vis X.env.scope x := by first | exact .inl rfl | exact .inr (.inl rfl) | exact .inr (.inr rfl)) (hd : (x == ("__debug__" : PySem.Str)) = false := by decide) (hcd : (x == ("__classdict__" : PySem.Str)) = false := by decide) :
    PE X (.Name x pos) (TEv G O W Φ (.slot i) false false) := PE.imp (pe_var hN hv hd hcd) fun σ H Q ⟨f, h⟩ => by
  have h2 : Post (match f.m[i]? with | some (some d) => pure d | _ => M.fail) f.o (KE G O f false false Q) (KX G O W f) := h
  split at h2
  · rename_i d e
    obtain ⟨ev, r⟩ := f.sr.own i d hO e
    exact ⟨_, ev, h2 _ H f (.refl f) rfl ⟨.inr ⟨_, rfl, (f.sr.br i d hO e).2, r⟩, nofun, nofun⟩⟩
  · exact h2.elim
theorem e_cst {e : Expr} {v : V} {d : D} (h : PE X e (tC v)) (r : ∀ pl H B, Rep G pl H B v d) : PE X e (TEv G O W Φ (.cst d) true false) := PE.imp h fun σ H Q ⟨f, q⟩ =>
  (show KE G O f true false Q d f.o from q) v H f (.refl f) rfl ⟨.inl (r _ _ _), fun _ => r _ _ _, nofun⟩
theorem e_int {i : Int} {j : Nat} {pos : Pos} : PE X (.Constant (.int i) j pos) (TEv G O W Φ (.cst (.int i)) true false) := e_cst pe_int fun _ _ _ => .int i
theorem e_bl {i : Bool} {j : Nat} {pos : Pos} : PE X (.Constant (.bool i) j pos) (TEv G O W Φ (.cst (.bl i)) true false) := e_cst pe_bl fun _ _ _ => .bl i
theorem e_non {j : Nat} {pos : Pos} : PE X (.Constant .none j pos) (TEv G O W Φ (.cst .non) true false) := e_cst pe_non fun _ _ _ => .non
theorem e_str {x : PySem.Str} {j : Nat} {pos : Pos} (s : List Nat) (h : txt s = x := by rfl) : PE X (.Constant (.str x) j pos) (TEv G O W Φ (.cst (.str s)) true false) := e_cst pe_str fun _ _ _ => h ▸ .str s
theorem e_weak {e : Expr} {c : E} {sf fr : Bool} (h : PE X e (TEv G O W Φ c sf fr)) : PE X e (TEv G O W Φ c false false) := PE.imp h fun σ H Q ⟨f, q⟩ =>
  ⟨f, q.mono (fun d o' k v H' f' t e x => k v H' f' t e ⟨x.rt, nofun, nofun⟩) fun _ _ z => z⟩
theorem e_nofr {e : Expr} {c : E} {sf fr : Bool} (h : PE X e (TEv G O W Φ c sf fr)) : PE X e (TEv G O W Φ c sf false) := PE.imp h fun σ H Q ⟨f, q⟩ =>
  ⟨f, q.mono (fun d o' k v H' f' t e x => k v H' f' t e ⟨x.rt, x.sf, nofun⟩) fun _ _ z => z⟩
theorem t_op {op : B2} {a b : E} {sa fa sb fb : Bool} {Q : VK} (h : TEv G O W Φ (.bin op a b) true true σ H Q) : tOp (r2 G op) (TEv G O W Φ a sa fa) (TEv G O W Φ b sb fb) σ H Q := by
  obtain ⟨f, h⟩ := h
  refine TEv.then f h fun v H1 f1 d t x h1 => ?_
  rw [← t.m] at h1
  refine TEv.then f1 h1 fun y H2 f2 d2 t2 x2 h2 => ?_
  obtain ⟨z, e, k⟩ := (cm_opM op d d2).post h2
  exact ⟨f2.pl, f2.o, f2.B, d, d2, fun a => f2.sr.some, t2.rt x.rt, x2.rt, by rw [e]; exact k.out (t.trans t2)⟩
theorem e_bin {a b : Expr} {ca cb : E} {sa fa sb fb : Bool} {op : Operator} {pos : Pos} (xo : XO G W X) (o2 : B2) (ho : binaryOp op = pyOp o2) (ha : PE X a (TEv G O W Φ ca sa fa)) (hb : PE X b (TEv G O W Φ cb sb fb)) : PE X (.BinOp a op b pos) (TEv G O W Φ (.bin o2 ca cb) true true) :=
  PE.imp (pe_op (ho ▸ ok_op xo.K xo.u o2) ha hb) fun _ _ _ h => t_op h
theorem e_cmp {a b : Expr} {ca cb : E} {sa fa sb fb : Bool} {op : CmpOp} {pos : Pos} (xo : XO G W X) (o2 : B2) (ho : compareOp op = pyOp o2) (ha : PE X a (TEv G O W Φ ca sa fa)) (hb : PE X b (TEv G O W Φ cb sb fb)) (hm : behindInMarks op b = false := by rfl) : PE X (.Compare a [op] [b] pos) (TEv G O W Φ (.bin o2 ca cb) true true) :=
  PE.imp (pe_cmpR (ho ▸ ok_op xo.K xo.u o2) ha hb hm) fun _ _ _ h => t_op h
theorem te_tt {c : E} {Q : Bool → Hp → Prop} {sf fr : Bool} (h : TTv G O W Φ c σ H Q) : TEv G O W Φ c sf fr σ H fun x H1 => ∃ k, x = .bl k ∧ Q k H1 := by
  obtain ⟨f, h⟩ := h
  refine ⟨f, (Post.bind.mp h).mono (fun d o' k v H1 f1 t e x => ?_) fun _ _ z => z⟩
  subst e
  obtain ⟨b, eb, kb⟩ := (cm_asB d).post k
  cases d with
  | bl b' =>
    have : b' = b := by
      have := congrFun eb []
      cases this; rfl
    subst this
    exact ⟨b', x.rt.bl, kb H1 f1 t rfl⟩
  | _ => exact absurd (congrFun eb []) (by intro z; cases z)
theorem p_cmp {a b : Expr} {ca cb : E} {sa fa sb fb : Bool} {op : CmpOp} {pos : Pos} (xo : XO G W X) (o2 : B2) (ho : compareOp op = pyOp o2) (ha : PE X a (TEv G O W Φ ca sa fa)) (hb : PE X b (TEv G O W Φ cb sb fb)) (hm : behindInMarks op b = false := by rfl) : PT X (.Compare a [op] [b] pos) (TTv G O W Φ (.bin o2 ca cb)) :=
  PT.imp (pt_cmpR (ho ▸ ok_op xo.K xo.u o2) ha hb hm) fun _ _ _ h => t_op (te_tt h)
theorem p_val {e : Expr} {c : E} {sf fr : Bool} (h : PE X e (TEv G O W Φ c sf fr)) (he : ∀ whole, isTrue e X.env whole = (do let v ← whole; standAt e.pos; holding [v] (truthy v)) := by intro _; rfl) : PT X e (TTv G O W Φ c) :=
  PT.imp (pt_val h he) fun _ _ _ q => te_tt q
theorem e_neg {a : Expr} {ca : E} {sa fa : Bool} {pos : Pos} (ha : PE X a (TEv G O W Φ ca sa fa)) : PE X (.UnaryOp .USub a pos) (TEv G O W Φ (.neg ca) true false) :=
  PE.imp (pe_un un_neg ha) fun _ _ Q ⟨f, h⟩ => by
    refine TEv.then f h fun v H1 f1 d t x h1 => ?_
    cases d with
    | int i => exact ⟨i, x.rt.int, (show KE G O f true false Q (.int (-i)) f1.o from h1) _ H1 f1 t rfl ⟨.inl (.int _), fun _ => .int _, nofun⟩⟩
    | _ => exact h1.elim
theorem t_chain {op op' : B2} {a b c : E} {sa fa sb fb sc fc : Bool} {Q : VK} (h : TEv G O W Φ (.chain op op' a b c) true true σ H Q) : tChain (r2 G op) (r2 G op') (TEv G O W Φ a sa fa) (TEv G O W Φ b sb fb) (TEv G O W Φ c sc fc) σ H Q := by
  obtain ⟨f, h⟩ := h
  refine TEv.then f h fun v H1 f1 d t x h1 => ?_
  rw [← t.m] at h1
  refine TEv.then f1 h1 fun y H2 f2 d2 t2 x2 h2 => ?_
  obtain ⟨z, e, k⟩ := (cm_opM op d d2).post (Post.bind.mp h2)
  refine ⟨f2.pl, f2.o, f2.B, d, d2, fun a => f2.sr.some, t2.rt x.rt, x2.rt, ?_⟩
  rw [e]
  intro w H3 al r n
  obtain ⟨b, eb, kb⟩ := (cm_asB z).post (Post.bind.mp k)
  cases z with
  | bl b' =>
    have : b' = b := by
      have := congrFun eb []
      cases this; rfl
    subst this
    cases r with
    | bl _ =>
      refine ⟨b', rfl, ?_⟩
      have to3 := t.trans (t2.trans (f2.al_to al))
      cases b' with
      | false => exact (show KE G O f true true Q (.bl false) f2.o from kb) _ H3 (f2.al al) to3 rfl ⟨.inl (.bl _), fun _ => .bl _, fun _ z => by cases z⟩
      | true =>
        have kb2 : Post (evE Φ c (f2.al al).m >>= fun w => opM op' d2 w) (f2.al al).o (KE G O f true true Q) (KX G O W (f2.al al)) := by
          have e : (f2.al al).m = f.m := by rw [(f2.al_to al).m, t2.m, t.m]
          rw [e]
          have kb3 : Post (evE Φ c f1.m >>= fun w => opM op' d2 w) f2.o (KE G O f true true Q) (KX G O W f2) := kb
          rw [t.m] at kb3
          exact Post.mono kb3 (fun _ _ z => z) fun _ _ z => z.to (f2.al_to al)
        refine TEv.then (f2.al al) kb2 fun y3 H4 f4 d3 t4 x4 h4 => ?_
        obtain ⟨z, e, k⟩ := (cm_opM op' d2 d3).post h4
        exact ⟨f4.pl, f4.o, f4.B, d2, d3, fun a => f4.sr.some, (t4.rt ((f2.al_to al).rt x2.rt)), x4.rt, by rw [e]; exact k.out (to3.trans t4)⟩
  | _ => exact absurd (congrFun eb []) (by intro z; cases z)
theorem e_chain {a b c : Expr} {ca cb cc : E} {sa fa sb fb sc fc : Bool} {op op' : CmpOp} {pos : Pos} (xo : XO G W X) (o2 o3 : B2) (ho : compareOp op = pyOp o2) (ho' : compareOp op' = pyOp o3) (ha : PE X a (TEv G O W Φ ca sa fa)) (hb : PE X b (TEv G O W Φ cb sb fb)) (hc : PE X c (TEv G O W Φ cc sc fc))
    (hm : lastMarks [op, op'] [b, c] = false := by with_unfolding_all rfl) : PE X (.Compare a [op, op'] [b, c] pos) (TEv G O W Φ (.chain o2 o3 ca cb cc) true true) :=
  PE.imp (pe_chain (ho ▸ ok_op xo.K xo.u o2) (ho' ▸ ok_op xo.K xo.u o3) ha hb hc hm) fun _ _ _ h => t_chain h
theorem p_chain {a b c : Expr} {ca cb cc : E} {sa fa sb fb sc fc : Bool} {op op' : CmpOp} {pos : Pos} (xo : XO G W X) (o2 o3 : B2) (ho : compareOp op = pyOp o2) (ho' : compareOp op' = pyOp o3) (ha : PE X a (TEv G O W Φ ca sa fa)) (hb : PE X b (TEv G O W Φ cb sb fb)) (hc : PE X c (TEv G O W Φ cc sc fc))
    (hm : lastMarks [op, op'] [b, c] = false := by with_unfolding_all rfl) : PT X (.Compare a [op, op'] [b, c] pos) (TTv G O W Φ (.chain o2 o3 ca cb cc)) :=
  PT.imp (pt_chain (ho ▸ ok_op xo.K xo.u o2) (ho' ▸ ok_op xo.K xo.u o3) ha hb hc hm) fun _ _ _ h => t_chain (te_tt h)

variable {a b c : Expr} {rest : List Expr} {ca cb cc : E} {sa fa sb fb sc fc : Bool} {pos : Pos}
theorem asB_bl {d : D} {b : Bool} (e : d.asB = (pure b : M Bool)) : d = .bl b := by
  cases d with
  | bl b' =>
    have := congrFun e []
    cases this; rfl
  | _ => exact absurd (congrFun e []) (by intro z; cases z)
theorem ev_test {α : Type} {x : E} {m : Slots} {k : Bool → M α} : (evE Φ x m >>= fun d => d.asB >>= k) = (evE Φ x m >>= D.asB) >>= k := (bnd_assoc _ _ _).symm
theorem TEv.test {x : E} {sf fr : Bool} {α : Type} {k : Bool → M α} (f : Fs G O σ H) {P : α → Objs → Prop} {Q : VK} (h : Post (evE Φ x f.m >>= fun d => d.asB >>= k) f.o P (KX G O W f))
    (q : ∀ H1 (f1 : Fs G O σ H1) b, f.To f1 → Post (k b) f1.o P (KX G O W f1) → Q (.bl b) H1) : TEv G O W Φ x sf fr σ H Q := by
  refine TEv.then f h fun v H1 f1 d t x h1 => ?_
  obtain ⟨b, eb, kb⟩ := (cm_asB d).post (Post.bind.mp h1)
  have := asB_bl eb
  subst this
  rw [x.rt.bl]
  exact q H1 f1 b t kb
theorem e_one {op : BoolOp} {s r : Bool} (h : PE X a (TEv G O W Φ ca s r)) : PE X (.BoolOp op [a] pos) (TEv G O W Φ ca s r) := pe_one h
theorem e_and (ha : PE X a (TEv G O W Φ ca sa fa)) (hb : PE X (.BoolOp .And (b :: rest) pos) (TEv G O W Φ cb true fb)) : PE X (.BoolOp .And (a :: b :: rest) pos) (TEv G O W Φ (.and ca cb) true false) :=
  PE.imp (pe_and ha hb) fun _ _ Q ⟨f, h⟩ => TEv.test f h fun H1 f1 b t k => ⟨b, rfl, by
    cases b with
    | false => exact (show KE G O f true false Q (.bl false) f1.o from k) _ H1 f1 t rfl ⟨.inl (.bl _), fun _ => .bl _, nofun⟩
    | true =>
      have k2 : Post (evE Φ cb f.m) f1.o (KE G O f true false Q) (KX G O W f1) := k
      rw [← t.m] at k2
      exact ⟨f1, k2.mono (fun d o' z v H' f' t' e x => z v H' f' (t.trans t') e ⟨x.rt, x.sf, nofun⟩) fun _ _ z => z⟩⟩
theorem e_or (ha : PE X a (TEv G O W Φ ca sa fa)) (hb : PE X (.BoolOp .Or (b :: rest) pos) (TEv G O W Φ cb true fb)) : PE X (.BoolOp .Or (a :: b :: rest) pos) (TEv G O W Φ (.or ca cb) true false) :=
  PE.imp (pe_or ha hb) fun _ _ Q ⟨f, h⟩ => TEv.test f h fun H1 f1 b t k => ⟨b, rfl, by
    cases b with
    | true => exact (show KE G O f true false Q (.bl true) f1.o from k) _ H1 f1 t rfl ⟨.inl (.bl _), fun _ => .bl _, nofun⟩
    | false =>
      have k2 : Post (evE Φ cb f.m) f1.o (KE G O f true false Q) (KX G O W f1) := k
      rw [← t.m] at k2
      exact ⟨f1, k2.mono (fun d o' z v H' f' t' e x => z v H' f' (t.trans t') e ⟨x.rt, x.sf, nofun⟩) fun _ _ z => z⟩⟩
theorem w_one {op : BoolOp} (ha : PT X a (TTv G O W Φ ca)) : PW X (.BoolOp op [a] pos) (TTv G O W Φ ca) := by
  cases op
  · exact pw_and1 ha
  · exact pw_or1 ha
theorem w_and (ha : PT X a (TTv G O W Φ ca)) (hb : PW X (.BoolOp .And (b :: rest) pos) (TTv G O W Φ cb)) : PW X (.BoolOp .And (a :: b :: rest) pos) (TTv G O W Φ (.and ca cb)) :=
  PW.imp (pw_and ha hb) fun _ _ Q ⟨f, h⟩ => by
    have h' : Post ((evE Φ ca f.m >>= fun x => x.asB >>= fun t => if t then evE Φ cb f.m else pure (.bl false)) >>= D.asB) f.o (KT G O f Q) (KX G O W f) := h
    rw [ev_test, bnd_assoc] at h'
    refine TTv.then f h' fun H1 f1 b t k => ?_
    cases b with
    | false => exact (show KT G O f Q false f1.o from k) H1 f1 t rfl
    | true =>
      have k2 : Post (evE Φ cb f.m >>= D.asB) f1.o (KT G O f Q) (KX G O W f1) := k
      rw [← t.m] at k2
      exact ⟨f1, k2.mono (fun _ _ z => z.to t) fun _ _ z => z⟩
theorem w_or (ha : PT X a (TTv G O W Φ ca)) (hb : PW X (.BoolOp .Or (b :: rest) pos) (TTv G O W Φ cb)) : PW X (.BoolOp .Or (a :: b :: rest) pos) (TTv G O W Φ (.or ca cb)) :=
  PW.imp (pw_or ha hb) fun _ _ Q ⟨f, h⟩ => by
    have h' : Post ((evE Φ ca f.m >>= fun x => x.asB >>= fun t => if t then pure (.bl true) else evE Φ cb f.m) >>= D.asB) f.o (KT G O f Q) (KX G O W f) := h
    rw [ev_test, bnd_assoc] at h'
    refine TTv.then f h' fun H1 f1 b t k => ?_
    cases b with
    | true => exact (show KT G O f Q true f1.o from k) H1 f1 t rfl
    | false =>
      have k2 : Post (evE Φ cb f.m >>= D.asB) f1.o (KT G O f Q) (KX G O W f1) := k
      rw [← t.m] at k2
      exact ⟨f1, k2.mono (fun _ _ z => z.to t) fun _ _ z => z⟩
theorem p_not (ha : PT X a (TTv G O W Φ ca)) : PT X (.UnaryOp .Not a pos) (TTv G O W Φ (.not ca)) :=
  PT.imp (pt_not ha) fun _ _ Q ⟨f, h⟩ => by
    have h' : Post ((evE Φ ca f.m >>= fun x => x.asB >>= fun t => pure (.bl (!t))) >>= D.asB) f.o (KT G O f Q) (KX G O W f) := h
    rw [ev_test, bnd_assoc] at h'
    exact TTv.then f h' fun H1 f1 b t k => (show KT G O f Q (!b) f1.o from k) H1 f1 t rfl
theorem e_ite (hc : PT X c (TTv G O W Φ cc)) (ha : PE X a (TEv G O W Φ ca sa fa)) (hb : PE X b (TEv G O W Φ cb sa fa)) : PE X (.IfExp c a b pos) (TEv G O W Φ (.ite cc ca cb) sa fa) :=
  PE.imp (pe_ifExp hc ha hb) fun _ _ Q ⟨f, h⟩ => by
    have h' : Post (evE Φ cc f.m >>= fun x => x.asB >>= fun t => if t then evE Φ ca f.m else evE Φ cb f.m) f.o (KE G O f sa fa Q) (KX G O W f) := h
    rw [ev_test] at h'
    refine TTv.then f h' fun H1 f1 b t k => ?_
    cases b with
    | true =>
      have k2 : Post (evE Φ ca f.m) f1.o (KE G O f sa fa Q) (KX G O W f1) := k
      rw [← t.m] at k2
      exact ⟨f1, k2.mono (fun _ _ z => z.to t) fun _ _ z => z⟩
    | false =>
      have k2 : Post (evE Φ cb f.m) f1.o (KE G O f sa fa Q) (KX G O W f1) := k
      rw [← t.m] at k2
      exact ⟨f1, k2.mono (fun _ _ z => z.to t) fun _ _ z => z⟩

variable {e : Expr} {es : List Expr} {ce : E} {ces : List E} {se fe : Bool}
theorem a_nil {s : Bool} : PA X [] (TAv G O W Φ [] s) := PA.imp pa_nil fun _ H Q ⟨f, h⟩ => (show KA G O f s Q [] f.o from h) [] H f (.refl f) rfl ⟨.nil, fun _ => .nil⟩
theorem a_cons {s : Bool} (he : PE X e (TEv G O W Φ ce s fe)) (hs : PA X es (TAv G O W Φ ces s)) (hst : starEach (e :: es) X.env = (false, eval e X.env) :: starEach es X.env := by rfl) : PA X (e :: es) (TAv G O W Φ (ce :: ces) s) :=
  PA.imp (pa_cons he hs hst) fun _ _ Q ⟨f, h⟩ => by
    refine TEv.then f h fun v H1 f1 d t x h1 => ?_
    rw [← t.m] at h1
    refine TAv.then f1 h1 fun vs H2 f2 ds t2 x2 h2 => ?_
    exact (show KA G O f s Q (d :: ds) f2.o from h2) _ H2 f2 (t.trans t2) rfl ⟨.cons (t2.rt x.rt) x2.rt, fun z => .cons (t2.rep (x.sf z)) (x2.sf z)⟩
theorem e_tup {x1 : Nat} (h : PA X es (TAv G O W Φ ces true)) : PE X (.Tuple es x1 pos) (TEv G O W Φ (.tup ces) true false) :=
  PE.imp (pe_tup h) fun _ _ Q ⟨f, h⟩ => by
    refine TAv.then f h fun vs H1 f1 ds t x h1 => ?_
    by_cases c : ds.length ≤ 1000
    · rw [if_pos c] at h1
      have r := x.sf rfl
      refine ⟨by rw [r.length, ← sz_line]; exact Nat.le_trans c (by decide), fun p hp => ?_⟩
      exact ((show KE G O f true false Q (.tup ds) f1.o from h1).out t).newT r hp
    · rw [if_neg c] at h1; exact h1.elim
theorem e_lst (h : PA X es (TAv G O W Φ ces true)) : PE X (.List es pos) (TEv G O W Φ (.lst ces) true true) :=
  PE.imp (pe_lst h) fun _ _ Q ⟨f, h⟩ => by
    refine TAv.then f h fun vs H1 f1 ds t x h1 => ?_
    by_cases c : ds.length ≤ 1000
    · rw [if_pos c] at h1
      have r := x.sf rfl
      refine ⟨by rw [r.length, ← sz_line]; exact Nat.le_trans c (by decide), fun p hp => ?_⟩
      exact ((show KE G O f true true Q (.lst ds) f1.o from h1).out t).newL (fun a => f1.sr.some) r hp
    · rw [if_neg c] at h1; exact h1.elim
theorem e_idx (xo : XO G W X) (ha : PE X a (TEv G O W Φ ca sa fa)) (hb : PE X b (TEv G O W Φ cb sb fb)) (hs : PlainIx b := by intro _ _; rfl) : PE X (.Subscript a b pos) (TEv G O W Φ (.idx ca cb) true false) :=
  PE.imp (pe_ix (ok_ix xo.K) ha hb hs) fun _ _ Q ⟨f, h⟩ => by
    refine TEv.then f h fun v H1 f1 d t x h1 => ?_
    rw [← t.m] at h1
    refine TEv.then f1 h1 fun y H2 f2 d2 t2 x2 h2 => ?_
    obtain ⟨z, e, k⟩ := (cm_idxM d d2).post h2
    exact ⟨f2.pl, f2.o, f2.B, d, d2, fun a => f2.sr.some, t2.rt x.rt, x2.rt, by rw [e]; exact fun v r => k v H2 f2 (t.trans t2) rfl ⟨.inl r, fun _ => r, nofun⟩⟩
def TOv (G : Glob) (O : List Nat) (W : WX) (Φ : Fns) (c : Option E) : TO := fun σ H Q => ∃ f : Fs G O σ H, Post (evO Φ c f.m) f.o (fun i o' => ∀ H' (f' : Fs G O σ H'), f.To f' → f'.o = o' → Q i H') (KX G O W f)
theorem o_none : PO X none (TOv G O W Φ none) := ⟨fun pins s σ H Q I ⟨f, h⟩ => po_none.run pins s σ H Q I (h H f (.refl f) rfl)⟩
theorem o_some (he : PE X e (TEv G O W Φ ce se fe)) : PO X (some e) (TOv G O W Φ (some ce)) := ⟨fun pins s σ H Q I ⟨f, h⟩ => (po_some he).run pins s σ H Q I (by
  refine TEv.then f h fun v H1 f1 d t x h1 => ?_
  cases d with
  | int i => exact ⟨i, x.rt.int, h1 H1 f1 t rfl⟩
  | _ => exact h1.elim)⟩
theorem TOv.then {c : Option E} {α : Type} {k : Option Int → M α} (f : Fs G O σ H) {P : α → Objs → Prop} {Q : Option Int → Hp → Prop} (h : Post (evO Φ c f.m >>= k) f.o P (KX G O W f))
    (q : ∀ i H1 (f1 : Fs G O σ H1), f.To f1 → Post (k i) f1.o P (KX G O W f1) → Q i H1) : TOv G O W Φ c σ H Q := by
  refine ⟨f, Post.mono (Post.bind.mp h) (fun d o' hd H1 f1 t e => ?_) fun _ _ z => z⟩
  subst e
  exact q d H1 f1 t (Post.mono hd (fun _ _ z => z) fun _ _ z => z.to t)
theorem e_sl {lo hi : Option Expr} {cl ch : Option E} {p2 : Pos} (xo : XO G W X) (ha : PE X a (TEv G O W Φ ca sa fa)) (hl : PO X lo (TOv G O W Φ cl)) (hh : PO X hi (TOv G O W Φ ch)) : PE X (.Subscript a (.Slice lo hi none p2) pos) (TEv G O W Φ (.sl ca cl ch) true true) :=
  PE.imp (pe_slice (ok_sl xo.K) ha hl hh) fun _ _ Q ⟨f, h⟩ => by
    refine TEv.then f h fun v H1 f1 d t x h1 => ?_
    rw [← t.m] at h1
    refine TOv.then f1 h1 fun l H2 f2 t2 h2 => ?_
    rw [← t2.m] at h2
    refine TOv.then f2 h2 fun u H3 f3 t3 h3 => ?_
    obtain ⟨z, e, k⟩ := (cm_cutM d l u).post h3
    exact ⟨f3.pl, f3.o, f3.B, d, fun a => f3.sr.some, t3.rt (t2.rt x.rt), by rw [e]; exact k.out (t.trans (t2.trans t3))⟩
theorem t_blt {f : BF} {s : Bool} {Q : VK} (h : TEv G O W Φ (.blt f ces) true true σ H Q) : tCB (rC G f) (TAv G O W Φ ces s) σ H Q := by
  obtain ⟨f0, h⟩ := h
  refine TAv.then f0 h fun vs H1 f1 ds t x h1 => ?_
  obtain ⟨z, e, k⟩ := (cm_blt f ds).post h1
  exact ⟨f1.pl, f1.o, f1.B, ds, fun a => f1.sr.some, x.rt, by rw [e]; exact k.out t⟩
theorem e_blt {f : BF} {s : Bool} {id : String} {x : PySem.Str} {p : Pos} (hc : CallR X (.builtin id) (rC G f)) (hm : X.mg x = none) (ha : PA X (e :: es) (TAv G O W Φ ces s)) (hg : Gl X x := by rfl) (hv : bootBuiltins x = some (.builtin id) := by decide +kernel) (hn : x ≠ "__name__" := by decide) (hdb : (x == ("__debug__" : PySem.Str)) = false := by decide)
    (he : starEach (e :: es) X.env = (false, eval e X.env) :: starEach es X.env := by rfl) (hpl : (backTo pos (starEach es X.env)).any (·.1) = false := by rfl) : PE X (.Call (.Name x p) (e :: es) [] pos) (TEv G O W Φ (.blt f ces) true true) :=
  PE.imp (pe_callB hc hg hm hv ha hn hdb he hpl) fun _ _ _ h => t_blt h
theorem e_bltT {f : BF} {s : Bool} {T : String} {x : PySem.Str} {p : Pos} (hc : CallR X (.type T) (rC G f)) (hm : X.mg x = none) (ha : PA X (e :: es) (TAv G O W Φ ces s)) (hg : Gl X x := by rfl) (hv : bootBuiltins x = some (.type T) := by decide +kernel) (hn : x ≠ "__name__" := by decide) (hdb : (x == ("__debug__" : PySem.Str)) = false := by decide)
    (he : starEach (e :: es) X.env = (false, eval e X.env) :: starEach es X.env := by rfl) (hpl : (backTo pos (starEach es X.env)).any (·.1) = false := by rfl) : PE X (.Call (.Name x p) (e :: es) [] pos) (TEv G O W Φ (.blt f ces) true true) :=
  PE.imp (pe_callTy hc hg hm hv ha hn hdb he hpl) fun _ _ _ h => t_blt h
end
end WB
namespace WB
open PySem PySem.Spec PyProof.Rows L2
theorem meets_enumB {v : Value} {o : Obj} {H : Heap → Prop} (B : Begins v o H) :
    Meets (Builtin.«enumerate.__new__» ⟨[.type "enumerate", v], []⟩) (fun _ R s => H s.heap ∧
      R (.ok (.ret (.ref (s.heap.push o).objs.size))) { s with heap := (s.heap.push o).push { cls := .type "enumerate", data := .fields #[.none, .bool false, .ref s.heap.objs.size, rawInt 0, .none, .none] } }) :=
  .of_wp fun prog w A R s h => by
    obtain ⟨hp, g, d, tk, os⟩ := s
    obtain ⟨h1, h⟩ := h
    have hsub := sub_enumerate
    have it : ∀ {A' : Around} {E : Value → Shared → Prop} {Q : Value → Shared → Prop}, Q (.ref hp.objs.size) ⟨hp.push o, g, d, tk, os⟩ → wpAny (model prog w) A' (pyIter v) Q E ⟨hp, g, d, tk, os⟩ :=
      fun {A' E Q} q => B.iter prog w A' E ⟨hp, g, d, tk, os⟩ Q h1 q
    wp_walk using it
    refine wpAny_stack_any fun st => wpAny_pure ?_
    split
    · rename_i c _ _ _ _ _
      cases (c == Value.type "enumerate") <;> (wp_walk using it; exact ⟨_, rfl, h⟩)
    · (wp_walk using it; exact ⟨_, rfl, h⟩)
theorem call_enumB {prog : Program} {w : World} {A : Around} {E : Value → Shared → Prop} {s : Shared} {v : Value} {o : Obj} {H : Heap → Prop} {Q : Value → Shared → Prop} (B : Begins v o H) (h1 : H s.heap)
    (h : ∀ h', IsEnum h' (s.heap.objs.size + 1) s.heap.objs.size 0 .none → h'.get? s.heap.objs.size = some o → (∀ b o, s.heap.get? b = some o → h'.get? b = some o) → Q (.ref (s.heap.objs.size + 1)) { s with heap := h' }) :
    wpAny (model prog w) A (call (.type "enumerate") [v]) Q E s := by
  refine callType_new F.called_enumerate (by decide) (F.typeCall_enumerate_1 _) (F.newCall_enumerate_1 _) (fun obj => F.args_object_init_2 obj _) F.entry_enumerate_new (meets_enumB B) ⟨h1, ?_⟩
  have z : (s.heap.push o).objs.size = s.heap.objs.size + 1 := Heap.size_push ..
  show _ ∧ _
  rw [z]
  have he : IsEnum ((s.heap.push o).push { cls := .type "enumerate", data := .fields #[.none, .bool false, .ref s.heap.objs.size, rawInt 0, .none, .none] }) (s.heap.objs.size + 1) s.heap.objs.size 0 .none := by
    have q := Heap.get?_push_size (s.heap.push o) (o := { cls := .type "enumerate", data := .fields #[.none, .bool false, .ref s.heap.objs.size, rawInt 0, .none, .none] }) rfl
    rw [z] at q
    exact q
  exact ⟨⟨_, he, rfl⟩, h _ he (Heap.get?_push_of_some _ (Heap.get?_push_size _ B.free)) fun b o x => Heap.get?_push_of_some _ (Heap.get?_push_of_some _ x)⟩
def Itn (go : Nat → Hp → Prop) (yl : Nat → Hp → V → Prop) (st : Nat → Hp → Prop) : It := ⟨go, fun i H v H' => ∃ T x, v = .ref T ∧ H T = none ∧ H' = upd H T (.tup [.int (i : Nat), x]) ∧ yl i H x, st⟩
def Dr (X : Cx) (it : Addr) (i : Nat) (H : Hp) (s : Shared) (S : Nat → Heap → Prop) (yl : Nat → Hp → V → Prop) : Prop := ∃ (fp : List Addr) (n : Nat) (Pd : Nat → Value → Prop) (Sd : Nat → Heap → Prop), Draws X.prog X.w X.A.in1 it fp n Pd Sd ∧ Sd i s.heap ∧ i < n ∧ (∀ b ∈ fp, ∃ o, s.heap.get? b = some o ∧ o.cls ≠ .type "enumerate") ∧
  (∀ h', Sd (i + 1) h' → S (i + 1) h') ∧ ∀ u, Pd i u → ∃ x, RelV x u ∧ yl i H x
def De (X : Cx) (it : Addr) (i : Nat) (s : Shared) : Prop := ∃ (fp : List Addr) (n : Nat) (Pd : Nat → Value → Prop) (Sd : Nat → Heap → Prop), Draws X.prog X.w X.A.in1 it fp n Pd Sd ∧ Sd n s.heap
theorem turn_en {P : Program} {w : World} {K : PySem.W.Frag} {elts : List Expr} {kk : Nat} {tpos : Pos} (e it : Addr) {go : Nat → Hp → Prop} {yl : Nat → Hp → V → Prop} {st : Nat → Hp → Prop} {S : Nat → Heap → Prop}
    (so : ∀ i h, S i h → ∃ o, h.get? it = some o ∧ ∀ v, o.data ≠ .cell v) (sk : ∀ i h h', S i h → (∀ o, h.get? it = some o → h'.get? it = some o) → S i h')
    (si : ∀ (X : Cx), X.prog = P → X.w = w → X.K = K → X.calm = true → ∀ (i : Nat) (pins : List (Addr × Obj)) (s : Shared) (σ : L2.St) (H : Hp), Inv X pins σ H s → S i s.heap → go i H → Dr X it i H s S yl)
    (sd : ∀ (X : Cx), X.prog = P → X.w = w → X.K = K → X.calm = true → ∀ (i : Nat) (pins : List (Addr × Obj)) (s : Shared) (σ : L2.St) (H : Hp), Inv X pins σ H s → S i s.heap → st i H → De X it i s) :
    Turn P w K (.Tuple elts kk tpos) (Itn go yl st) [e, it] e (fun i h => (∃ old, IsEnum h e it ((i : Nat) : Int) old) ∧ S i h ∧ e ≠ it) where
  mem := by simp
  obj := fun i h s b hb => by
    obtain ⟨⟨old, he⟩, hs, _⟩ := s
    rcases (by simpa using hb : b = e ∨ b = it) with z | z
    · rw [z]; exact ⟨_, he, fun v q => nomatch q⟩
    · rw [z]; exact so i h hs
  keep := fun i h h' s k => let ⟨⟨old, he⟩, hi, hne⟩ := s; ⟨⟨old, k e (by simp) _ he⟩, sk i h h' hi fun o q => k it (by simp) o q, hne⟩
  item := by
    intro X hP hw hK hc i pins s σ H E I hf stt hg
    obtain ⟨⟨old, he⟩, hS, hne⟩ := stt
    obtain ⟨fp, n, Pd, Sd, D, s0, lt, ap, nx, rel⟩ := si X hP hw hK hc i pins s σ H I hS hg
    subst hP hw hK
    have hel : e < s.heap.objs.size := Heap.lt_size he
    have hil : it < s.heap.objs.size := by obtain ⟨_, q, _⟩ := so i _ hS; exact Heap.lt_size q
    have hef : e ∉ fp := fun z => by
      obtain ⟨o, q1, q2⟩ := ap e z
      rw [he] at q1
      cases q1
      exact q2 rfl
    refine wpAny_pyNext_enum_itemD D he s0 lt hne hef fun u h' tk hu ho hs' hT hsz hk => ?_
    obtain ⟨x, rx, yx⟩ := rel u hu
    refine ⟨_, rfl, wpAny_letOwnedTupleGo_enum (s := { s with heap := h', toks := tk + 1 }) ho fun h2 he' sb => ?_⟩
    have hT2 : h2.get? s.heap.objs.size = some { cls := .type "tuple", data := .seq #[.int i tk, u] } := (sb.2 _ (Nat.ne_of_gt hel)).trans hT
    have new : ObjOk X.prog X.w (upd H s.heap.objs.size (.tup [.int (i : Nat), x])) h2 s.heap.objs.size (.tup [.int (i : Nat), x]) := ⟨by show 2 ≤ sizeLine; decide, [.int i tk, u], .cons ⟨_, rfl⟩ (.cons rx .nil), ⟨_, hT2, rfl, _, rfl⟩⟩
    have I1 : Inv X pins σ (upd H s.heap.objs.size (.tup [.int (i : Nat), x])) { s with heap := h2, toks := tk + 1 } :=
      I.turnedNew (ch := [e, it]) (fun b ob hb q => (sb.2 b (fun z => hb (by simp [z]))).trans (hk b ob (fun z => hb (by simp [z])) (fun z => hb (by simp [z])) q)) hf (Nat.le_refl _) new
    refine ⟨.ref s.heap.objs.size, _, I1, rfl, ⟨_, x, rfl, I.hok.fresh (Nat.le_refl _), rfl, yx⟩, ⟨⟨u, ?_⟩, sk _ _ _ (nx _ hs') fun o q => (sb.2 it (Ne.symm hne)).trans q, hne⟩, fun b hb => ?_⟩
    · have e1 : ((i + 1 : Nat) : Int) = (i : Int) + 1 := by omega
      rw [e1]; exact he'
    · have hb' : b < s.heap.objs.size := by
        rcases (by simpa using hb : b = e ∨ b = it) with z | z
        · rw [z]; exact hel
        · rw [z]; exact hil
      rw [upd_ne (Nat.ne_of_lt hb')]
      exact (hf b hb).1
  done := by
    intro X hP hw hK hc i pins s σ H E I hf stt hg
    obtain ⟨⟨old, he⟩, hS, hne⟩ := stt
    obtain ⟨fp, n, Pd, Sd, D, s0⟩ := sd X hP hw hK hc i pins s σ H I hS hg
    subst hP hw hK
    obtain ⟨f0, f1, f2, f3, f4, f5⟩ := hf it (by simp)
    exact wpAny_pyNext_enum_endD D he s0 fun h' eb => ⟨rfl, I.turned (t' := s.toks) (fun b o hb q => eb b o hb q) f0 f1 f3 f4 f5⟩
  self := fun A i s Q E st h => let ⟨⟨_, he⟩, _⟩ := st; wpAny_pyIter_enum he h
abbrev IteT (K : PySem.W.Frag) (a : Addr) : It := Itn (fun i H => ∃ xs x, SqT K H a xs ∧ xs[i]? = some x) (fun i H x => ∀ xs, SqT K H a xs → xs[i]? = some x) (fun i H => ∃ xs, SqT K H a xs ∧ xs.length = i)
abbrev IteS (x : PySem.Str) : It := Itn (fun i _ => i < x.cps.size) (fun i _ v => ∃ c, x.cps[i]? = some c ∧ v = .str ⟨#[c]⟩) (fun i _ => i = x.cps.size)
theorem turn_enT {P : Program} {w : World} {K : PySem.W.Frag} {elts : List Expr} {kk : Nat} {tpos : Pos} (a e it : Addr) : Turn P w K (.Tuple elts kk tpos) (IteT K a) [e, it] e (fun i h => (∃ old, IsEnum h e it ((i : Nat) : Int) old) ∧ h.IsTupleIter it a i ∧ e ≠ it) := by
  refine turn_en e it (fun i h s => ?_) (fun i h h' s k => s.at fun o q => k o q) (fun X hP hw hK hc i pins s σ H I hS hg => ?_) fun X hP hw hK hc i pins s σ H I hS hg => ?_
  · obtain ⟨o, e, c, d⟩ := s
    exact ⟨o, e, fun v z => by rw [d] at z; cases z⟩
  · subst hK
    obtain ⟨xs, x, hq, hx⟩ := hg
    obtain ⟨its, rv, p, hz⟩ := I.tuple hq
    obtain ⟨u, hu, ru⟩ := rv.get hx
    obtain ⟨o, eo, co, d⟩ := id hS
    obtain ⟨ot, et, ct, _⟩ := id p
    have ne : a ≠ it := fun z => by
      rw [z, eo] at et
      cases et
      rw [ct] at co
      exact absurd co (by decide)
    refine ⟨[it, a], _, _, _, Draws.tuple (prog := X.prog) (w := X.w) (A := X.A.in1) (I.ok.hd hc) it a ne its.toArray, ⟨hS, p⟩, ?_, fun b hb => ?_, fun h' z => z.1, fun u' hu' => ?_⟩
    · have := List.getElem?_eq_some_iff.mp hu
      simpa using this.1
    · rcases (by simpa using hb : b = it ∨ b = a) with z | z
      · rw [z]; exact ⟨o, eo, by rw [co]; decide⟩
      · rw [z]; exact ⟨ot, et, by rw [ct]; decide⟩
    · have : its[i]? = some u' := by simpa using hu'
      rw [hu] at this
      cases this
      exact ⟨x, ru, fun ys hy => by rw [I.tuple_inj hy hq]; exact hx⟩
  · subst hK
    obtain ⟨xs, hq, hx⟩ := hg
    obtain ⟨its, rv, p, hz⟩ := I.tuple hq
    obtain ⟨o, eo, co, d⟩ := id hS
    obtain ⟨ot, et, ct, _⟩ := id p
    have ne : a ≠ it := fun z => by
      rw [z, eo] at et
      cases et
      rw [ct] at co
      exact absurd co (by decide)
    have hl := rv.length
    refine ⟨[it, a], _, _, _, Draws.tuple (prog := X.prog) (w := X.w) (A := X.A.in1) (I.ok.hd hc) it a ne its.toArray, ⟨?_, p⟩⟩
    have e1 : its.toArray.size = i := by simp; omega
    rw [e1]
    exact hS
theorem turn_enS {P : Program} {w : World} {K : PySem.W.Frag} {elts : List Expr} {kk : Nat} {tpos : Pos} (x : PySem.Str) (t : Tok) (e it : Addr) : Turn P w K (.Tuple elts kk tpos) (IteS x) [e, it] e (fun i h => (∃ old, IsEnum h e it ((i : Nat) : Int) old) ∧ h.IsStrIter it (strIterType x) x t i ∧ e ≠ it) := by
  refine turn_en e it (fun i h s => ?_) (fun i h h' s k => let ⟨o, ho, r⟩ := s; ⟨o, k o ho, r⟩) (fun X hP hw hK hc i pins s σ H I hS hg => ?_) fun X hP hw hK hc i pins s σ H I hS hg => ?_
  · obtain ⟨o, e, c, d⟩ := s
    exact ⟨o, e, fun v z => by rw [d] at z; cases z⟩
  · obtain ⟨o, eo, co, d⟩ := id hS
    refine ⟨[it], _, _, _, Draws.text (prog := X.prog) (w := X.w) (A := X.A.in1) (I.ok.hd hc) it x t, hS, hg, fun b hb => ?_, fun h' z => z, fun u' hu' => ?_⟩
    · have hb' : b = it := by simpa using hb
      rw [hb']
      refine ⟨o, eo, ?_⟩
      rw [co]
      unfold strIterType
      split <;> decide
    · obtain ⟨c, u, e1, e2⟩ := hu'
      exact ⟨.str ⟨#[c]⟩, ⟨u, e2⟩, c, e1, rfl⟩
  · have e1 : i = x.cps.size := hg
    subst e1
    exact ⟨[it], _, _, _, Draws.text (prog := X.prog) (w := X.w) (A := X.A.in1) (I.ok.hd hc) it x t, hS⟩
def iEnumT (K : PySem.W.Frag) (ta : TA) : TI := fun σ H R => ta σ H fun vs H1 => ∃ v, vs = [v] ∧ ((∃ a xs, v = .ref a ∧ SqT K H1 a xs ∧ R (IteT K a) H1) ∨ (∃ x, v = .str x ∧ R (IteS x) H1) ∨ ∃ a xs, v = .ref a ∧ SqL K H1 a xs ∧ R (Ite K a) H1)
theorem pi_enumT {X : Cx} {e : Expr} {ta : TA} {p pos tpos : Pos} {elts : List Expr} {kk : Nat} (hg : Gl X "enumerate") (hm : X.mg "enumerate" = none) (ha : PA X [e] ta) (hs : starEach [e] X.env = [(false, eval e X.env)] := by rfl) :
    PI X (.Tuple elts kk tpos) (.Call (.Name "enumerate" p) [e] [] pos) (iEnumT X.K ta) := by
  refine ⟨fun pins s σ H R I h => ?_⟩
  refine Call_ (ld_blt I hg hm boot_enumerate (PyProof.Rows.callWith_type1 (thn (ha.run pos pins s σ H _ I h) fun us s1 ⟨vs, H1, I1, r1, q1⟩ => ?_) hs rfl))
  obtain ⟨v, ex, q⟩ := q1
  subst ex
  obtain ⟨u, rfl, ru⟩ := vals1 r1
  have fin : ∀ b ∈ [s1.heap.objs.size + 1, s1.heap.objs.size], FpOk X pins H1 b := fun b hb => by
    have hle : s1.heap.objs.size ≤ b := by
      rcases (by simpa using hb : b = s1.heap.objs.size + 1 ∨ b = s1.heap.objs.size) with z | z
      · rw [z]; exact Nat.le_add_right _ _
      · rw [z]; exact Nat.le_refl _
    exact I1.fpOk hle (I1.hok.fresh hle)
  rcases q with ⟨a, xs, rfl, hq, q⟩ | ⟨x, rfl, q⟩ | ⟨a, xs, rfl, hq, q⟩
  · cases ru
    obtain ⟨its, rv, p', hz⟩ := I1.tuple hq
    refine call_enumB (begins_tuple a its.toArray) p' fun h' he hit hk => wpAny_pyIter_enum he ?_
    exact ⟨s1.heap.objs.size + 1, [s1.heap.objs.size + 1, s1.heap.objs.size], _, _, H1, rfl, I1.kept (t' := s1.toks) hk, turn_enT a (s1.heap.objs.size + 1) s1.heap.objs.size, ⟨⟨.none, he⟩, ⟨_, hit, rfl, rfl⟩, Nat.succ_ne_self _⟩, fin, q⟩
  · obtain ⟨t, rfl⟩ := ru
    refine call_enumB (begins_text x t) trivial fun h' he hit hk => wpAny_pyIter_enum he ?_
    exact ⟨s1.heap.objs.size + 1, [s1.heap.objs.size + 1, s1.heap.objs.size], _, _, H1, rfl, I1.kept (t' := s1.toks) hk, turn_enS x t (s1.heap.objs.size + 1) s1.heap.objs.size, ⟨⟨.none, he⟩, ⟨_, hit, rfl, rfl⟩, Nat.succ_ne_self _⟩, fin, q⟩
  · cases ru
    obtain ⟨its, rv, p', hz⟩ := I1.list hq
    refine call_enumB (begins_list a its.toArray) p'.isList fun h' he hit hk => wpAny_pyIter_enum he ?_
    exact ⟨s1.heap.objs.size + 1, [s1.heap.objs.size + 1, s1.heap.objs.size], _, _, H1, rfl, I1.kept (t' := s1.toks) hk, turn_enum a (s1.heap.objs.size + 1) s1.heap.objs.size, ⟨⟨.none, he⟩, ⟨_, hit, rfl, rfl⟩, Nat.succ_ne_self _⟩, fin, q⟩
end WB
namespace WB
open PySem L2
section
variable {G : Glob} {O : List Nat} {σ σ' σ2 : L2.St} {H H' H2 : Hp}
def Fs.T (f : Fs G O σ H) (a : Addr) : Prop := (∃ i d, i ∈ O ∧ f.m[i]? = some (some d) ∧ f.R i = a) ∨ Vol G f.o f.pl a
theorem Fs.b_iff (f : Fs G O σ H) (a : Addr) : f.B a ↔ f.B0 a ∨ f.T a := Iff.rfl
structure Fs.Go (f : Fs G O σ H) (f' : Fs G O σ' H') : Prop where
  b0 : f'.B0 = f.B0
  ext : Ext f.T H H'
  new : ∀ a, H a ≠ none → f'.T a → f.T a
  agree : ∀ k, live G f.o k → f'.pl.of k = f.pl.of k ∧ live G f'.o k
  fresh : ∀ k, live G f'.o k → ¬ live G f.o k → H (f'.pl.of k) = none
  n : f.pl.n ≤ f'.pl.n
theorem Fs.Go.refl (f : Fs G O σ H) : f.Go f := ⟨rfl, Ext.refl, fun _ _ h => h, fun _ h => ⟨rfl, h⟩, fun _ h n => absurd h n, Nat.le_refl _⟩
theorem Fs.Go.trans {f : Fs G O σ H} {f1 : Fs G O σ' H'} {f2 : Fs G O σ2 H2} (a : f.Go f1) (b : f1.Go f2) : f.Go f2 where
  b0 := b.b0.trans a.b0
  ext := a.ext.trans b.ext fun x t h => a.new x h t
  new := fun x h t => a.new x h (b.new x (fun z => h (a.ext.dom x z)) t)
  agree := fun k l => ⟨((b.agree k (a.agree k l).2).1).trans (a.agree k l).1, (b.agree k (a.agree k l).2).2⟩
  fresh := fun k l n => by
    by_cases q : live G f1.o k
    · rw [(b.agree k q).1]; exact a.fresh k q n
    · exact a.ext.dom _ (b.fresh k l q)
  n := Nat.le_trans a.n b.n
theorem Fs.To.go {f : Fs G O σ H} {f' : Fs G O σ H'} (t : f.To f') : f.Go f' where
  b0 := t.b0
  ext := t.st.ext.mono fun _ z => .inr z
  new := fun a h z => by
    rcases z with ⟨i, d, hi, hm, e⟩ | z
    · exact .inl ⟨i, d, hi, by rw [← t.m]; exact hm, by rw [← t.r]; exact e⟩
    · exact .inr (t.st.vol z h)
  agree := t.st.agree
  fresh := t.st.fresh
  n := t.st.n
theorem Fs.Go.bv {f : Fs G O σ H} {f' : Fs G O σ' H'} (g : f.Go f') : ∀ a, H a ≠ none → f'.B a → f.B a := fun a h b => by
  rcases (f'.b_iff a).mp b with b | b
  · exact .inl (g.b0 ▸ b)
  · exact .inr (g.new a h b)
theorem Fs.Go.ob {f : Fs G O σ H} {f' : Fs G O σ' H'} (g : f.Go f') : ∀ k, k < f.pl.n → f'.pl.of (.ob k) = f.pl.of (.ob k) ∧ k < f'.pl.n := fun k hk => ⟨(g.agree (.ob k) (f.sr.obj.obK hk)).1, Nat.lt_of_lt_of_le hk g.n⟩
structure Tr (f : Fs G O σ H) (T : Addr → Prop) (pl' : Pl) (H' : Hp) (B' : Addr → Prop) : Prop where
  ext : Ext T H H'
  bv : ∀ a, H a ≠ none → B' a → f.B a
  ob : ∀ k, k < f.pl.n → pl'.of (.ob k) = f.pl.of (.ob k) ∧ k < pl'.n
theorem Tr.rep {f : Fs G O σ H} {T : Addr → Prop} {pl' : Pl} {B' : Addr → Prop} (t : Tr f T pl' H' B') (s : ∀ a, T a → f.B a) {v : V} {d : D} (x : Rep G f.pl H f.B v d) : Rep G pl' H' B' v d :=
  Rep.go t.ext.tups t.ext.frzs (fun a vs nb h => ⟨fun z => nb (t.bv a (by rw [h]; simp) z), t.ext.keep _ _ (fun z => nb (s a z)) h⟩) (fun a C nb h => ⟨fun z => nb (t.bv a (by rw [h]; simp) z), t.ext.keep _ _ (fun z => nb (s a z)) h⟩) t.ob x
theorem Tr.reps {f : Fs G O σ H} {T : Addr → Prop} {pl' : Pl} {B' : Addr → Prop} (t : Tr f T pl' H' B') (s : ∀ a, T a → f.B a) {v : List V} {d : List D} (x : Reps G f.pl H f.B v d) : Reps G pl' H' B' v d :=
  Reps.go t.ext.tups t.ext.frzs (fun a vs nb h => ⟨fun z => nb (t.bv a (by rw [h]; simp) z), t.ext.keep _ _ (fun z => nb (s a z)) h⟩) (fun a C nb h => ⟨fun z => nb (t.bv a (by rw [h]; simp) z), t.ext.keep _ _ (fun z => nb (s a z)) h⟩) t.ob x
theorem Fs.Go.tr {f : Fs G O σ H} {f' : Fs G O σ' H'} (g : f.Go f') : Tr f f.B f'.pl H' f'.B := ⟨g.ext.mono fun _ z => .inr z, g.bv, g.ob⟩
theorem Fs.Go.rep {f : Fs G O σ H} {f' : Fs G O σ' H'} (g : f.Go f') {v : V} {d : D} (x : Rep G f.pl H f.B v d) : Rep G f'.pl H' f'.B v d := g.tr.rep (fun _ z => z) x
theorem Fs.Go.reps {f : Fs G O σ H} {f' : Fs G O σ' H'} (g : f.Go f') {v : List V} {d : List D} (x : Reps G f.pl H f.B v d) : Reps G f'.pl H' f'.B v d := g.tr.reps (fun _ z => z) x
theorem set_other {α : Type} {m : List (Option α)} {i j : Nat} {x : Option α} (h : j ≠ i) : (m.set i x)[j]? = m[j]? := List.getElem?_set_ne (Ne.symm h)
theorem set_some {α : Type} {m : List (Option α)} {i : Nat} {x y : α} (h : (m.set i (some x))[i]? = some (some y)) : x = y ∧ i < m.length := by
  by_cases l : i < m.length
  · rw [List.getElem?_set_self l] at h
    cases h
    exact ⟨rfl, l⟩
  · rw [List.getElem?_eq_none (by simp; omega)] at h
    cases h
theorem neO {i j : Nat} (hj : j ∈ O) (hi : i ∉ O) : j ≠ i := fun z => hi (z ▸ hj)
theorem Bv.set {B0 : Addr → Prop} {R : Nat → Addr} {pl : Pl} {m : Slots} {o : Objs} {i : Nat} {x : Option D} (hi : i ∉ O) : Bv G O B0 R pl (m.set i x) o = Bv G O B0 R pl m o := by
  funext a
  refine propext ⟨fun h => ?_, fun h => ?_⟩
  · rcases h with h | ⟨j, d, hj, hm, e⟩ | h
    · exact .inl h
    · exact .inr (.inl ⟨j, d, hj, by rw [← hm, set_other (neO hj hi)], e⟩)
    · exact .inr (.inr h)
  · rcases h with h | ⟨j, d, hj, hm, e⟩ | h
    · exact .inl h
    · exact .inr (.inl ⟨j, d, hj, by rw [← hm, set_other (neO hj hi)], e⟩)
    · exact .inr (.inr h)
theorem sr_set {B0 : Addr → Prop} {R : Nat → Addr} {pl : Pl} {m : Slots} {o : Objs} {i : Nat} {v : V} {d : D} (sr : SR G O B0 R pl m o σ H) (hi : i ∉ O) (r : Rep G pl H (Bv G O B0 R pl m o) v d) : SR G O B0 R pl (m.set i (some d)) o (σ.set i (some v)) H where
  len := by rw [List.length_set, List.length_set]; exact sr.len
  old := sr.old
  bv := sr.bv
  br := fun j e hj hm => sr.br j e hj (by rw [← hm, set_other (neO hj hi)])
  rr := fun j k e e' hj hk hm hm' => sr.rr j k e e' hj hk (by rw [← hm, set_other (neO hj hi)]) (by rw [← hm', set_other (neO hk hi)])
  val := fun j e hj hm => by
    rw [Bv.set hi]
    by_cases z : j = i
    · subst z
      obtain ⟨e1, e2⟩ := set_some hm
      subst e1
      exact ⟨v, List.getElem?_set_self (by rw [← sr.len]; exact e2), r⟩
    · rw [set_other z] at hm ⊢
      exact sr.val j e hj hm
  own := fun j e hj hm => by
    rw [Bv.set hi]
    have z : j ≠ i := fun z => hi (z ▸ hj)
    rw [set_other z] at hm ⊢
    exact sr.own j e hj hm
  obj := by rw [Bv.set hi]; exact sr.obj
  ty := fun j e hj hm => sr.ty j e hj (by rw [← hm, set_other (neO hj hi)])
theorem sr_wipe1 {B0 : Addr → Prop} {R : Nat → Addr} {pl : Pl} {m : Slots} {o : Objs} {i : Nat} (sr : SR G O B0 R pl m o σ H) (hi : i ∉ O) : SR G O B0 R pl (m.set i none) o (σ.set i none) H where
  len := by rw [List.length_set, List.length_set]; exact sr.len
  old := sr.old
  bv := sr.bv
  br := fun j e hj hm => sr.br j e hj (by rw [← hm, set_other (neO hj hi)])
  rr := fun j k e e' hj hk hm hm' => sr.rr j k e e' hj hk (by rw [← hm, set_other (neO hj hi)]) (by rw [← hm', set_other (neO hk hi)])
  val := fun j e hj hm => by
    rw [Bv.set hi]
    by_cases z : j = i
    · subst z
      by_cases l : j < m.length
      · rw [List.getElem?_set_self l] at hm; cases hm
      · rw [List.getElem?_eq_none (by simp; omega)] at hm; cases hm
    · rw [set_other z] at hm ⊢
      exact sr.val j e hj hm
  own := fun j e hj hm => by
    rw [Bv.set hi]
    have z : j ≠ i := fun z => hi (z ▸ hj)
    rw [set_other z] at hm ⊢
    exact sr.own j e hj hm
  obj := by rw [Bv.set hi]; exact sr.obj
  ty := fun j e hj hm => sr.ty j e hj (by rw [← hm, set_other (neO hj hi)])
def Fs.set (f : Fs G O σ H) {i : Nat} {v : V} {d : D} (hi : i ∉ O) (r : Rep G f.pl H f.B v d) : Fs G O (σ.set i (some v)) H := ⟨f.B0, f.R, f.pl, f.m.set i (some d), f.o, sr_set f.sr hi r⟩
theorem Fs.set_go (f : Fs G O σ H) {i : Nat} {v : V} {d : D} (hi : i ∉ O) (r : Rep G f.pl H f.B v d) : f.Go (f.set hi r) where
  b0 := rfl
  ext := Ext.refl
  new := fun a h z => by
    rcases z with ⟨j, e, hj, hm, q⟩ | z
    · exact .inl ⟨j, e, hj, by rw [← set_other (neO hj hi)]; exact hm, q⟩
    · exact .inr z
  agree := fun k l => ⟨rfl, l⟩
  fresh := fun k l n => absurd l n
  n := Nat.le_refl _
theorem Fs.set_b (f : Fs G O σ H) {i : Nat} {v : V} {d : D} (hi : i ∉ O) (r : Rep G f.pl H f.B v d) : (f.set hi r).B = f.B := Bv.set hi
end
def Tg.slots : Tg → List Nat
  | .name i => [i]
  | .many is => is
def TGv (G : Glob) (O : List Nat) (t : Tg) : TG := fun v σ H Q => ∃ (f : Fs G O σ H) (d : D) (m' : Slots), Rep G f.pl H f.B v d ∧ bindD t d f.m = (pure m' : M Slots) ∧
  ∀ σ' (f' : Fs G O σ' H), f.Go f' → f'.m = m' → f'.o = f.o → f'.B0 = f.B0 → f'.R = f.R → f'.pl = f.pl → (∀ j, j ∉ t.slots → σ'[j]? = σ[j]?) → σ'.length = σ.length → (∀ j ∈ O, f'.m[j]? = f.m[j]?) → Q σ' H
theorem PG.imp {X : Cx} {tg : Expr} {t t' : TG} (h : PG X tg t) (w : ∀ v σ H Q, t' v σ H Q → t v σ H Q) : PG X tg t' := ⟨fun pins s σ H v u Q I r q => h.run pins s σ H v u Q I r (w v σ H Q q)⟩
section
variable {G : Glob} {O : List Nat} {W : WX} {Φ : Fns} {X : Cx} {σ : L2.St} {H H' : Hp} {pos : Pos}
theorem g_name {x : PySem.Str} (xo : XO G W X) (i : Nat) (hO : i ∉ O := by decide) (hi : X.N[i]? = some x := by rfl) (hx : Loc X.env.scope x := by first | exact .inl rfl | exact .inr rfl) (hf : X.fn x = true ∨ X.env.scope.names.lookup x = some .local := by first | exact .inl rfl | exact .inr rfl) : PG X (.Name x pos) (TGv G O (.name i)) :=
  PG.imp (pg_name xo.nd hi hx hf) fun v σ H Q ⟨f, d, m', r, e, q⟩ => by
    have e' : m' = f.m.set i (some d) := by
      have := congrFun e []
      cases this; rfl
    subst e'
    exact q _ (f.set hO r) (f.set_go hO r) rfl rfl rfl rfl rfl (fun j hj => set_other fun z => hj (by rw [z]; exact List.mem_singleton_self _)) (by rw [List.length_set]) fun j hj => set_other (neO hj hO)
def gSlots : List Nat → TGs
  | [] => gNil
  | i :: is => gCons (gName i) (gSlots is)
inductive NmS (O : List Nat) (X : Cx) : List Expr → List Nat → Prop where
  | nil : NmS O X [] []
  | cons {x : PySem.Str} {p : Pos} {es : List Expr} {is : List Nat} (i : Nat) (hO : i ∉ O) (hi : X.N[i]? = some x) (hx : Loc X.env.scope x) (hf : X.fn x = true ∨ X.env.scope.names.lookup x = some .local) (t : NmS O X es is) : NmS O X (.Name x p :: es) (i :: is)
theorem nm_cons {x : PySem.Str} {p : Pos} {es : List Expr} {is : List Nat} (i : Nat) (t : NmS O X es is) (hO : i ∉ O := by decide) (hi : X.N[i]? = some x := by rfl) (hx : Loc X.env.scope x := by first | exact .inl rfl | exact .inr rfl) (hf : X.fn x = true ∨ X.env.scope.names.lookup x = some .local := by first | exact .inl rfl | exact .inr rfl) : NmS O X (.Name x p :: es) (i :: is) := .cons i hO hi hx hf t
theorem NmS.pgs (nd : X.N.Nodup) : ∀ {es : List Expr} {is : List Nat}, NmS O X es is → PGs X es (gSlots is) ∧ (assignEach es X.env).length = is.length ∧ (assignEach es X.env).findIdx? (·.1) = none
  | _, _, .nil => ⟨pgs_nil, rfl, rfl⟩
  | _, _, .cons i hO hi hx hf t => by
    obtain ⟨h1, h2, h3⟩ := NmS.pgs nd t
    refine ⟨pgs_cons (pg_name nd hi hx hf) h1 rfl, ?_, ?_⟩
    · show (_ :: _ : List _).length = _
      rw [List.length_cons, h2]; rfl
    · show List.findIdx? _ (_ :: _) = none
      rw [List.findIdx?_cons]
      simp only [Bool.false_eq_true, if_false]
      rw [h3]; rfl
theorem NmS.notO : ∀ {es : List Expr} {is : List Nat}, NmS O X es is → ∀ i ∈ is, i ∉ O
  | _, _, .nil, _, h => by cases h
  | _, _, .cons i hO _ _ _ t, j, h => by
    rcases List.mem_cons.mp h with z | z
    · rw [z]; exact hO
    · exact t.notO j z
theorem slots_put {Q : L2.St → Hp → Prop} : ∀ (is : List Nat) (vs : List V) (ds : List D) (σ : L2.St) (f : Fs G O σ H), (∀ i ∈ is, i ∉ O) → Reps G f.pl H f.B vs ds → ds.length = is.length →
    (∀ σ' (f' : Fs G O σ' H), f.Go f' → f'.m = (is.zip ds).foldl (fun m p => m.set p.1 (some p.2)) f.m → f'.o = f.o → f'.B0 = f.B0 → f'.R = f.R → f'.pl = f.pl → (∀ j, j ∉ is → σ'[j]? = σ[j]?) → σ'.length = σ.length → (∀ j ∈ O, f'.m[j]? = f.m[j]?) → Q σ' H) → gSlots is vs σ H Q
  | [], vs, ds, σ, f, _, r, l, q => by
    cases ds with
    | nil =>
      cases r
      exact ⟨rfl, q σ f (.refl f) rfl rfl rfl rfl rfl (fun _ _ => rfl) rfl fun _ _ => rfl⟩
    | cons _ _ => cases l
  | i :: is, vs, ds, σ, f, hO, r, l, q => by
    cases ds with
    | nil => cases l
    | cons d ds =>
      cases r with
      | cons rh rt =>
        rename_i v vs
        refine ⟨_, _, rfl, ?_⟩
        have hi : i ∉ O := hO i (List.mem_cons_self ..)
        have r2 : Reps G (f.set hi rh).pl H (f.set hi rh).B vs ds := by rw [Fs.set_b]; exact rt
        refine slots_put is _ ds _ (f.set hi rh) (fun j hj => hO j (List.mem_cons_of_mem _ hj)) r2 (by simpa using l) fun σ' f' g e1 e2 e3 e4 e5 e6 e7 e8 => ?_
        exact q σ' f' ((f.set_go hi rh).trans g) e1 e2 e3 e4 e5 (fun j hj => (e6 j fun z => hj (List.mem_cons_of_mem _ z)).trans (set_other fun z => hj (by rw [z]; exact List.mem_cons_self ..))) (by rw [e7, List.length_set]) fun j hj => (e8 j hj).trans (set_other (neO hj hi))
theorem g_tup {es : List Expr} {is : List Nat} {k : Nat} (xo : XO G W X) (h : NmS O X es is) : PG X (.Tuple es k pos) (TGv G O (.many is)) := by
  obtain ⟨h1, h2, h3⟩ := h.pgs xo.nd
  have pt := pg_tup (k := k) (pos := pos) xo.calm h1 h2 h3
  have pl := pg_lst (k := k) (pos := pos) xo.calm h1 h2 h3
  refine ⟨fun pins s σ H v u Q I r q => ?_⟩
  obtain ⟨f, d, m', rp, e, q⟩ := q
  unfold bindD at e
  dsimp only at e
  cases d with
  | tup ds =>
    dsimp only at e
    by_cases c : ds.length = is.length
    · rw [if_pos c] at e
      have e' := congrFun e []
      cases e'
      obtain ⟨a, vs, rfl, hs, rs⟩ := (show RT G f.pl f.o H f.B v (.tup ds) from .inl rp).tup
      exact pt.run pins s σ H _ u Q I r ⟨a, vs, rfl, xo.K ▸ hs, by rw [rs.length, c], slots_put is vs ds σ f h.notO rs c fun σ' f' g e1 e2 e3 e4 e5 e6 e7 e8 => q σ' f' g e1 e2 e3 e4 e5 e6 e7 e8⟩
    · rw [if_neg c] at e
      exact absurd (congrFun e []) (by intro z; cases z)
  | lst ds =>
    dsimp only at e
    by_cases c : ds.length = is.length
    · rw [if_pos c] at e
      have e' := congrFun e []
      cases e'
      obtain ⟨a, vs, rfl, hs, rs⟩ := (show RT G f.pl f.o H f.B v (.lst ds) from .inl rp).lst
      exact pl.run pins s σ H _ u Q I r ⟨a, vs, rfl, .of hs, by rw [rs.length, c], slots_put is vs ds σ f h.notO rs c fun σ' f' g e1 e2 e3 e4 e5 e6 e7 e8 => q σ' f' g e1 e2 e3 e4 e5 e6 e7 e8⟩
    · rw [if_neg c] at e
      exact absurd (congrFun e []) (by intro z; cases z)
  | _ => exact absurd (congrFun e []) (by intro z; cases z)
end
end WB
namespace WB
open PySem L2
def ItOk {G : Glob} {O : List Nat} {σ : L2.St} {H : Hp} (J : It) (ds : List D) (f : Fs G O σ H) (T : Addr → Prop) : Prop := ∀ (pl' : Pl) (H' : Hp) (B' : Addr → Prop), Tr f T pl' H' B' →
  (∀ i d, ds[i]? = some d → J.go i H' ∧ ∀ x H2, J.yld i H' x H2 → Al H' H2 ∧ Rep G pl' H2 B' x d) ∧ J.stop ds.length H'
def TIv (G : Glob) (O : List Nat) (W : WX) (Φ : Fns) (c : E) (sf : Bool) : TI := fun σ H R => ∃ f : Fs G O σ H, Post (evI Φ c f.m) f.o (fun ds o' => ∀ J H1 (f1 : Fs G O σ H1), f.To f1 → f1.o = o' → ItOk J ds f1 (if sf = true then f1.B else Vol G f1.o f1.pl) → R J H1) (KX G O W f)
section
variable {G : Glob} {O : List Nat} {W : WX} {Φ : Fns} {X : Cx} {σ : L2.St} {H H' : Hp} {pos : Pos} {e tg : Expr} {es : List Expr} {c : E} {cs : List E} {sf fr : Bool}
theorem signs_get {s : List Nat} {i : Nat} {d : D} (e : (signs s)[i]? = some d) : ∃ c, s[i]? = some c ∧ d = .str [c] := by
  unfold signs at e
  rw [List.getElem?_map] at e
  cases h : s[i]? with
  | none => rw [h] at e; cases e
  | some c => rw [h] at e; cases e; exact ⟨c, rfl, rfl⟩
theorem signs_len (s : List Nat) : (signs s).length = s.length := List.length_map ..
def iAny (K : PySem.W.Frag) (te : TE) : TI := fun σ H R => te σ H fun x H1 => (∃ a, x = .ref a ∧ (∃ xs, SqL K H1 a xs) ∧ R (Itl K a) H1) ∨ (∃ a, x = .ref a ∧ (∃ xs, SqT K H1 a xs) ∧ R (Itt K a) H1) ∨ ∃ t, x = .str t ∧ R (Its t) H1
theorem pi_any {te : TE} (he : PE X e te) : PI X tg e (iAny X.K te) := by
  refine ⟨fun pins s σ H R I h => ?_⟩
  refine thn (he.run pins s σ H _ I h) fun v s1 ⟨x, H1, I1, r1, q1⟩ => ?_
  rcases q1 with ⟨a, ex, ⟨xs, hq⟩, q⟩ | ⟨a, ex, ⟨xs, hq⟩, q⟩ | ⟨t, ex, q⟩
  · subst ex
    cases r1
    obtain ⟨its, _, p, _⟩ := I1.list hq
    exact wpAny_pyIter_list p.isList (pi_one (tk := s1.toks) I1 _ (turn_list a _) ⟨_, Heap.get?_push_size _ rfl, rfl, rfl⟩ q)
  · subst ex
    cases r1
    obtain ⟨its, _, p, _⟩ := I1.tuple hq
    exact wpAny_pyIter_tuple (show s1.heap.IsTuple a its.toArray from p) (pi_one (tk := s1.toks) I1 _ (turn_tuple a _) ⟨_, Heap.get?_push_size _ rfl, rfl, rfl⟩ q)
  · subst ex
    obtain ⟨k, rfl⟩ := r1
    cases ha : t.cps.all (· < 128)
    · exact wpAny_pyIter_wide ha (pi_one (tk := s1.toks) I1 _ (turn_str _ t k "str_iterator" (.inr rfl)) ⟨_, Heap.get?_push_size _ rfl, rfl, rfl⟩ q)
    · exact wpAny_pyIter_ascii ha (pi_one (tk := s1.toks) I1 _ (turn_str _ t k "str_ascii_iterator" (.inl rfl)) ⟨_, Heap.get?_push_size _ rfl, rfl, rfl⟩ q)
theorem Tr.vol {f : Fs G O σ H} {pl' : Pl} {B' : Addr → Prop} {T : Addr → Prop} (t : Tr f T pl' H' B') (hT : ∀ a, T a → f.B a) {vs : List V} {ds : List D} (r : Reps G f.pl H f.B vs ds) {i : Nat} {d : D} (e : ds[i]? = some d) : ∃ v, vs[i]? = some v ∧ Rep G pl' H' B' v d := (t.reps hT r).get e
theorem it_list {f : Fs G O σ H} {v : V} {ds : List D} (h : RT G f.pl f.o H f.B v (.lst ds)) (hs : sf = true → Rep G f.pl H f.B v (.lst ds)) : ∃ a, v = .ref a ∧ (∃ xs, SqL G.K H a xs) ∧ ItOk (Itl G.K a) ds f (if sf = true then f.B else Vol G f.o f.pl) := by
  have key : ∀ (a : Addr) (vs : List V) (T : Addr → Prop), H a = some (.lst vs) → ¬ T a → (∀ a, T a → f.B a) → Reps G f.pl H f.B vs ds → ItOk (Itl G.K a) ds f T := by
    intro a vs T ha nt hT rs pl' H' B' t
    have ha' : H' a = some (.lst vs) := t.ext.keep _ _ nt ha
    refine ⟨fun i d e => ?_, vs, .of ha', by rw [rs.length]; exact Nat.le_refl _⟩
    obtain ⟨x, ex, rx⟩ := t.vol hT rs e
    refine ⟨⟨vs, x, .of ha', ex⟩, fun y H2 q => ?_⟩
    obtain ⟨e1, e2⟩ := q
    subst e1
    have := e2 vs (.of ha')
    rw [ex] at this
    cases this
    exact ⟨Ext.refl, rx⟩
  cases sf with
  | true =>
    cases hs rfl with
    | lst b ha rs => exact ⟨_, rfl, ⟨_, .of ha⟩, key _ _ _ ha b (fun _ z => z) rs⟩
  | false =>
    rcases h with h | ⟨p, e, nv, vs, ha, rs⟩
    · cases h with
      | lst b ha rs => exact ⟨_, rfl, ⟨_, .of ha⟩, key _ _ _ ha (fun z => b (Bv.vol z)) (fun _ z => Bv.vol z) rs⟩
    · exact ⟨p, e, ⟨_, .of ha⟩, key _ _ _ ha nv (fun _ z => Bv.vol z) rs⟩
theorem tvol (f : Fs G O σ H) : ∀ a, (if sf = true then f.B else Vol G f.o f.pl) a → f.B a := fun a h => by
  cases sf with
  | true => exact h
  | false => exact Bv.vol h
theorem it_tup {f : Fs G O σ H} {v : V} {ds : List D} {T : Addr → Prop} (h : RT G f.pl f.o H f.B v (.tup ds)) (hT : ∀ a, T a → f.B a) : ∃ a, v = .ref a ∧ (∃ xs, SqT G.K H a xs) ∧ ItOk (Itt G.K a) ds f T := by
  obtain ⟨a, vs, e, hq, rs⟩ := h.tup
  refine ⟨a, e, ⟨vs, hq⟩, fun pl' H' B' t => ?_⟩
  have hq' := t.ext.sqT hq
  refine ⟨fun i d e => ?_, vs, hq', by rw [rs.length]; exact Nat.le_refl _⟩
  obtain ⟨x, ex, rx⟩ := t.vol hT rs e
  refine ⟨⟨vs, x, hq', ex⟩, fun y H2 q => ?_⟩
  obtain ⟨e1, e2⟩ := q
  subst e1
  have := e2 vs hq'
  rw [ex] at this
  cases this
  exact ⟨Ext.refl, rx⟩
theorem it_str {f : Fs G O σ H} {s : List Nat} {T : Addr → Prop} : ItOk (Its (txt s)) (signs s) f T := fun pl' H' B' t => by
  refine ⟨fun i d e => ?_, by rw [signs_len]; show (s.toArray).size ≤ _; simp⟩
  obtain ⟨c, e1, e2⟩ := signs_get e
  subst e2
  refine ⟨?_, fun x H2 q => ?_⟩
  · show i < s.toArray.size
    have := List.getElem?_eq_some_iff.mp e1
    simpa using this.1
  · obtain ⟨q1, c', q2, q3⟩ := q
    subst q1 q3
    have q2' : s[i]? = some c' := by simpa using q2
    rw [e1] at q2'
    cases q2'
    exact ⟨Ext.refl, .str [c]⟩
theorem i_val (xo : XO G W X) (he : PE X e (TEv G O W Φ c sf fr)) : PI X tg e (TIv G O W Φ (.ival c) sf) :=
  PI.imp (pi_any he) fun σ H R ⟨f, h⟩ => by
    refine TEv.then f h fun v H1 f1 d t x h1 => ?_
    rw [xo.K]
    cases d with
    | lst ds =>
      obtain ⟨a, e1, e2, ok⟩ := it_list (sf := sf) x.rt x.sf
      exact .inl ⟨a, e1, e2, (show ∀ J H1 (f1 : Fs G O σ H1), f.To f1 → f1.o = _ → _ → R J H1 from h1) _ H1 f1 t rfl ok⟩
    | tup ds =>
      obtain ⟨a, e1, e2, ok⟩ := it_tup (T := if sf = true then f1.B else Vol G f1.o f1.pl) x.rt (tvol f1)
      exact .inr (.inl ⟨a, e1, e2, (show ∀ J H1 (f1 : Fs G O σ H1), f.To f1 → f1.o = _ → _ → R J H1 from h1) _ H1 f1 t rfl ok⟩)
    | str s => exact .inr (.inr ⟨_, x.rt.str, (show ∀ J H1 (f1 : Fs G O σ H1), f.To f1 → f1.o = _ → _ → R J H1 from h1) _ H1 f1 t rfl it_str⟩)
    | _ => exact h1.elim
theorem rng_get {a c : Int} : ∀ {n i : Nat} {d : D}, (rngD a c n)[i]? = some d → i < n ∧ d = .int (a + (i : Nat) * c)
  | 0, _, _, e => by cases e
  | n + 1, 0, d, e => by
    have e' : some (D.int a) = some d := e
    cases e'
    exact ⟨by omega, by simp⟩
  | n + 1, i + 1, d, e => by
    have e' : (rngD (a + c) c n)[i]? = some d := by simpa [rngD] using e
    obtain ⟨l, q⟩ := rng_get e'
    refine ⟨by omega, ?_⟩
    rw [q]
    congr 1
    have : ((i + 1 : Nat) : Int) = (i : Int) + 1 := by omega
    rw [this, Int.add_mul]
    omega
theorem rng_len {a c : Int} : ∀ n : Nat, (rngD a c n).length = n
  | 0 => rfl
  | n + 1 => congrArg Nat.succ (rng_len n)
theorem it_rng {f : Fs G O σ H} {a : Int} {n : Nat} {T : Addr → Prop} : ItOk (Itr a n) (rngD a 1 n) f T := fun pl' H' B' t => by
  refine ⟨fun i d e => ?_, by rw [rng_len]; show n ≤ n; exact Nat.le_refl _⟩
  obtain ⟨l, q⟩ := rng_get e
  refine ⟨l, fun x H2 q2 => ?_⟩
  obtain ⟨q1, q3⟩ := q2
  subst q1 q3 q
  rw [Int.mul_one]
  exact ⟨Ext.refl, .int _⟩
theorem inB_ok {i : Int} (h : inB i = true) : -1000000000 ≤ i ∧ i ≤ 1000000000 := by
  unfold inB at h
  rw [Bool.and_eq_true, decide_eq_true_eq, decide_eq_true_eq] at h
  exact h
theorem two62 : (2 : Int) ^ 62 = 4611686018427387904 := by decide
theorem evA_len : ∀ (cs : List E) (m : Slots) {o : Objs} {P : List D → Objs → Prop} {E : Nat → Objs → Prop}, Post (evA Φ cs m) o P E → Post (evA Φ cs m) o (fun ds o' => ds.length = cs.length ∧ P ds o') E
  | [], m, o, P, E, h => ⟨rfl, h⟩
  | c :: cs, m, o, P, E, h => by
    have h1 : Post (evE Φ c m >>= fun x => evA Φ cs m >>= fun xs => pure (x :: xs)) o P E := h
    show Post (evE Φ c m >>= fun x => evA Φ cs m >>= fun xs => pure (x :: xs)) o _ E
    refine Post.bind.mpr ((Post.bind.mp h1).mono (fun x o1 q => ?_) fun _ _ z => z)
    exact Post.bind.mpr ((evA_len cs m (Post.bind.mp q)).mono (fun xs o2 ⟨l, z⟩ => ⟨congrArg Nat.succ l, z⟩) fun _ _ z => z)
theorem TAv.then2 {cs : List E} {sf : Bool} {α : Type} {k : List D → M α} (f : Fs G O σ H) {P : α → Objs → Prop} {Q : List V → Hp → Prop} (h : Post (evA Φ cs f.m >>= k) f.o P (KX G O W f))
    (q : ∀ vs H1 (f1 : Fs G O σ H1) ds, f.To f1 → Vals' G O f1 sf vs ds → ds.length = cs.length → Post (k ds) f1.o P (KX G O W f1) → Q vs H1) : TAv G O W Φ cs sf σ H Q := by
  refine ⟨f, Post.mono (evA_len cs f.m (Post.bind.mp h)) (fun d o' hd v H1 f1 t e x => ?_) fun _ _ z => z⟩
  subst e
  exact q v H1 f1 d t x hd.1 (Post.mono hd.2 (fun _ _ z => z) fun _ _ z => z.to t)
theorem i_rng1 {p : Pos} (hm : X.mg "range" = none) (ha : PA X [e] (TAv G O W Φ [c] sf)) (hg : Gl X "range" := by rfl) (hs : starEach [e] X.env = [(false, eval e X.env)] := by rfl) : PI X tg (.Call (.Name "range" p) [e] [] pos) (TIv G O W Φ (.irng [c]) true) :=
  PI.imp (pi_range1 hg hm ha hs) fun σ H R ⟨f, h⟩ => by
    refine TAv.then2 f h fun vs H1 f1 ds t x l h1 => ?_
    unfold rngM at h1
    split at h1
    · rename_i b
      obtain ⟨v, e1, r⟩ := one_of x.rt
      subst e1
      rw [r.int]
      by_cases cb : inB b = true
      · rw [if_pos cb] at h1
        obtain ⟨l1, l2⟩ := inB_ok cb
        refine ⟨b, rfl, by rw [two62]; omega, by rw [two62]; omega, ?_⟩
        exact (show ∀ J H1 (f1 : Fs G O σ H1), f.To f1 → f1.o = _ → _ → R J H1 from h1) _ H1 f1 t rfl it_rng
      · rw [if_neg cb] at h1; exact h1.elim
    · cases l
    · cases l
    · exact h1.elim
theorem i_rng2 {e2 : Expr} {c2 : E} {p : Pos} (hm : X.mg "range" = none) (ha : PA X [e, e2] (TAv G O W Φ [c, c2] sf)) (hg : Gl X "range" := by rfl) (hs : starEach [e, e2] X.env = [(false, eval e X.env), (false, eval e2 X.env)] := by rfl) (hs2 : starEach [e2] X.env = [(false, eval e2 X.env)] := by rfl) :
    PI X tg (.Call (.Name "range" p) [e, e2] [] pos) (TIv G O W Φ (.irng [c, c2]) true) :=
  PI.imp (pi_range2 hg hm ha hs hs2) fun σ H R ⟨f, h⟩ => by
    refine TAv.then2 f h fun vs H1 f1 ds t x l h1 => ?_
    unfold rngM at h1
    split at h1
    · cases l
    · rename_i a b
      obtain ⟨v, w, e1, r1, r2⟩ := two_of x.rt
      subst e1
      rw [r1.int, r2.int]
      by_cases cb : (inB a && inB b) = true
      · rw [if_pos cb] at h1
        rw [Bool.and_eq_true] at cb
        obtain ⟨l1, l2⟩ := inB_ok cb.1
        obtain ⟨l3, l4⟩ := inB_ok cb.2
        refine ⟨a, b, rfl, ⟨by rw [two62]; omega, by rw [two62]; omega, by rw [two62]; omega, by rw [two62]; omega⟩, ?_⟩
        exact (show ∀ J H1 (f1 : Fs G O σ H1), f.To f1 → f1.o = _ → _ → R J H1 from h1) _ H1 f1 t rfl it_rng
      · rw [if_neg cb] at h1; exact h1.elim
    · cases l
    · exact h1.elim
theorem enum_get : ∀ {ds : List D} {k i : Nat} {d : D}, (enumD k ds)[i]? = some d → ∃ x, ds[i]? = some x ∧ d = .tup [.int ((k + i : Nat) : Int), x]
  | [], _, _, _, e => by cases e
  | x :: ds, k, 0, d, e => by
    have e' : some (D.tup [.int (k : Nat), x]) = some d := e
    cases e'
    exact ⟨x, rfl, rfl⟩
  | x :: ds, k, i + 1, d, e => by
    have e' : (enumD (k + 1) ds)[i]? = some d := by simpa [enumD] using e
    obtain ⟨y, q1, q2⟩ := enum_get e'
    exact ⟨y, by simpa using q1, by rw [q2]; congr 3; congr 1; omega⟩
theorem enum_len : ∀ (ds : List D) (k : Nat), (enumD k ds).length = ds.length
  | [], _ => rfl
  | _ :: ds, k => congrArg Nat.succ (enum_len ds (k + 1))
theorem rep_pair {pl : Pl} {B : Addr → Prop} {p : Addr} {k : Int} {v : V} {d : D} (hp : H p = none) (r : Rep G pl H B v d) : Al H (upd H p (.tup [.int k, v])) ∧ Rep G pl (upd H p (.tup [.int k, v])) B (.ref p) (.tup [.int k, d]) := by
  have al : Al H (upd H p (.tup [.int k, v])) := Ext.new hp
  exact ⟨al, .tup upd_same (.cons (.int k) (.cons (r.al al fun _ _ z => z) .nil))⟩
theorem evA_one {α : Type} {m : Slots} {o : Objs} {k : D → M α} {P : α → Objs → Prop} {E : Nat → Objs → Prop} (h : Post (evE Φ c m >>= k) o P E) : Post (evA Φ [c] m >>= fun xs => (match xs with | [x] => k x | _ => M.fail)) o P E := by
  refine Post.bind.mpr ?_
  show Post (evE Φ c m >>= fun x => pure [x]) o _ _
  have h2 := Post.bind.mp h
  exact Post.bind.mpr (h2.mono (fun _ _ z => z) fun _ _ z => z)
theorem i_enumT {es : List Expr} {p tpos : Pos} {kk : Nat} (xo : XO G W X) (hm : X.mg "enumerate" = none) (ha : PA X [e] (TAv G O W Φ [c] sf)) (hsf : sf = true := by rfl) (hg : Gl X "enumerate" := by rfl) (hs : starEach [e] X.env = [(false, eval e X.env)] := by rfl) : PI X (.Tuple es kk tpos) (.Call (.Name "enumerate" p) [e] [] pos) (TIv G O W Φ (.ienum c) true) :=
  PI.imp (pi_enumT hg hm ha hs) fun σ H R ⟨f, h⟩ => by
    have h0 : Post (evE Φ c f.m >>= fun x => itemsM x >>= fun xs => pure (enumD 0 xs)) f.o (fun ds o' => ∀ J H1 (f1 : Fs G O σ H1), f.To f1 → f1.o = o' → ItOk J ds f1 f1.B → R J H1) (KX G O W f) := h
    have h' := evA_one h0
    refine TAv.then2 f h' fun vs H1 f1 ds t x l h1 => ?_
    match ds, l with
    | [d], _ =>
      obtain ⟨v, e1, r⟩ := one_of x.rt
      subst e1
      refine ⟨v, rfl, ?_⟩
      rw [xo.K]
      cases d with
      | tup ds =>
        obtain ⟨a, vs, e1, hq, rs⟩ := r.tup
        refine .inl ⟨a, vs, e1, hq, (show ∀ J H1 (f1 : Fs G O σ H1), f.To f1 → f1.o = _ → _ → R J H1 from h1) _ H1 f1 t rfl fun pl' H' B' tr => ?_⟩
        have hq' := tr.ext.sqT hq
        refine ⟨fun i d e => ?_, vs, hq', by rw [rs.length, enum_len]⟩
        obtain ⟨y, q1, q2⟩ := enum_get e
        obtain ⟨u, ex, rx⟩ := tr.vol (fun _ z => z) rs q1
        refine ⟨⟨vs, u, hq', ex⟩, fun z H2 q => ?_⟩
        obtain ⟨p, w, z1, z2, z3, z4⟩ := q
        have := z4 vs hq'
        rw [ex] at this
        cases this
        subst z1 z3 q2
        rw [Nat.zero_add]
        exact rep_pair z2 rx
      | str s =>
        refine .inr (.inl ⟨_, r.str, (show ∀ J H1 (f1 : Fs G O σ H1), f.To f1 → f1.o = _ → _ → R J H1 from h1) _ H1 f1 t rfl fun pl' H' B' tr => ?_⟩)
        refine ⟨fun i d e => ?_, by rw [enum_len, signs_len]; show _ = s.toArray.size; simp⟩
        obtain ⟨y, q1, q2⟩ := enum_get e
        obtain ⟨c, e1, e2⟩ := signs_get q1
        subst e2
        refine ⟨by show i < s.toArray.size; simpa using (List.getElem?_eq_some_iff.mp e1).1, fun z H2 q => ?_⟩
        obtain ⟨p, w, z1, z2, z3, c', z4, z5⟩ := q
        have z4' : s[i]? = some c' := by simpa using z4
        rw [e1] at z4'
        cases z4'
        subst z1 z3 z5 q2
        rw [Nat.zero_add]
        exact rep_pair z2 (.str [c])
      | lst ds =>
        cases x.sf hsf with
        | cons r' _ =>
          cases r' with
          | lst nb hl rs =>
            rename_i a vs
            refine .inr (.inr ⟨a, vs, rfl, .of hl, (show ∀ J H1 (f1 : Fs G O σ H1), f.To f1 → f1.o = _ → _ → R J H1 from h1) _ H1 f1 t rfl fun pl' H' B' tr => ?_⟩)
            have hl' : H' a = some (.lst vs) := tr.ext.keep _ _ nb hl
            refine ⟨fun i d e => ?_, vs, .of hl', by rw [rs.length, enum_len]; exact Nat.le_refl _⟩
            obtain ⟨y, q1, q2⟩ := enum_get e
            obtain ⟨u, ex, rx⟩ := tr.vol (fun _ z => z) rs q1
            refine ⟨⟨vs, u, .of hl', ex⟩, fun z H2 q => ?_⟩
            obtain ⟨p, w, z1, z2, z3, z4⟩ := q
            have := z4 vs (.of hl')
            rw [ex] at this
            cases this
            subst z1 z3 q2
            rw [Nat.zero_add]
            exact rep_pair z2 rx
      | _ => exact h1.elim
end
end WB
namespace WB
open PySem L2
section
variable {G : Glob} {O : List Nat} {W : WX} {Φ : Fns} {X : Cx} {σ : L2.St} {H H' : Hp}
theorem or_gen2 {pl : Pl} {o : Objs} {B B' T : Addr → Prop} (r : OR G pl o H B) (e : Ext T H H') (nt : ∀ k, (∀ i, k ≠ .tb i) → live G o k → ¬ T (pl.of k)) (tb : ∀ a, T a → B a) (hb : ∀ a, H a ≠ none → B' a → B a) (tabs : LamX.Tabs G.T H') : OR G pl o H' B' := by
  have reps : ∀ {vs : List V} {ds : List D}, Reps G pl H B vs ds → Reps G pl H' B' vs ds := fun x =>
    Reps.go e.tups e.frzs (fun a vs nb h => ⟨fun z => nb (hb a (by rw [h]; simp) z), e.keep _ _ (fun z => nb (tb a z)) h⟩) (fun a C nb h => ⟨fun z => nb (hb a (by rw [h]; simp) z), e.keep _ _ (fun z => nb (tb a z)) h⟩) (fun k hk => ⟨rfl, hk⟩) x
  have rep : ∀ {v : V} {d : D}, Rep G pl H B v d → Rep G pl H' B' v d := fun x =>
    Rep.go e.tups e.frzs (fun a vs nb h => ⟨fun z => nb (hb a (by rw [h]; simp) z), e.keep _ _ (fun z => nb (tb a z)) h⟩) (fun a C nb h => ⟨fun z => nb (hb a (by rw [h]; simp) z), e.keep _ _ (fun z => nb (tb a z)) h⟩) (fun k hk => ⟨rfl, hk⟩) x
  have own : ∀ {p : Addr} {d : D}, ¬ T p → OwnRep G pl H B p d → OwnRep G pl H' B' p d := fun {p d} np x => by
    cases d with
    | lst ds =>
      obtain ⟨vs, h, rs⟩ := x
      exact ⟨vs, e.keep _ _ np h, reps rs⟩
    | dic t kd =>
      obtain ⟨u, ks, ws, ds, h, o, rs, q⟩ := x
      exact ⟨u, ks, ws, ds, e.keep _ _ np h, o, reps rs, q⟩
    | _ => exact x.elim
  refine ⟨r.n, r.inj, fun k l z => r.there k l (e.dom _ z), fun n d h => own (nt (.ob n) (fun _ z => by cases z) (by
    show n < o.length
    exact (List.getElem?_eq_some_iff.mp h).1)) (r.box n d h), fun n c fs h => ?_, r.tbl, tabs, fun n l kd h => (r.nd n l kd h).imp (fun u _ q => e.keep _ _ (nt (.ob n) (fun _ z => by cases z) (show n < o.length from (List.getElem?_eq_some_iff.mp h).1)) q) (fun z u q => e.frzs _ _ _ q) reps, fun n d h => rep (r.lk n d h)⟩
  have l1 : live G o (.ob n) := (List.getElem?_eq_some_iff.mp h).1
  have l2 : live G o (.od n) := ⟨c, fs, h⟩
  obtain ⟨vs, h1, h2, h3, h4⟩ := r.ins n c fs h
  refine ⟨vs, e.keep _ _ (nt _ (fun _ z => by cases z) l1) h1, e.keep _ _ (nt _ (fun _ z => by cases z) l2) h2, fun f d hf => ?_, h4⟩
  obtain ⟨v, l, q⟩ := h3 f d hf
  refine ⟨v, l, ?_⟩
  exact rep q
theorem or_gen {pl : Pl} {o : Objs} {B B' T : Addr → Prop} (r : OR G pl o H B) (e : Ext T H H') (nv : ∀ a, T a → ¬ Vol G o pl a) (tb : ∀ a, T a → B a) (hb : ∀ a, H a ≠ none → B' a → B a) : OR G pl o H' B' :=
  or_gen2 r e (fun k _ l z => nv _ z ⟨k, l, rfl⟩) tb hb fun p hp => e.tabS (fun z => nv _ z (r.tabV hp)) (r.tabs p hp)
theorem sr_gen {B0 B1 T : Addr → Prop} {R : Nat → Addr} {pl : Pl} {m : Slots} {o : Objs} (sr : SR G O B0 R pl m o σ H) (e : Ext T H H') (tb : ∀ a, T a → B0 a) (h1 : ∀ a, H a ≠ none → B1 a → B0 a) (h2 : ∀ a, B1 a → H' a ≠ none) : SR G O B1 R pl m o σ H' := by
  have hb : ∀ a, H a ≠ none → Bv G O B1 R pl m o a → Bv G O B0 R pl m o a := fun a ha z => by
    rcases z with z | z | z
    · exact .inl (h1 a ha z)
    · exact .inr (.inl z)
    · exact .inr (.inr z)
  refine ⟨sr.len, h2, fun a b v => ?_, fun i d hi hm => ⟨fun z => (sr.br i d hi hm).1 (h1 _ (sr.own i d hi hm).2.some z), (sr.br i d hi hm).2⟩, sr.rr, fun i d hi hm => ?_, fun i d hi hm => ?_, or_gen sr.obj e (fun a t => sr.bv a (tb a t)) (fun a t => .inl (tb a t)) hb, sr.ty⟩
  · obtain ⟨k, l, ek⟩ := v
    have ha : H a ≠ none := by rw [← ek]; exact sr.obj.there k l
    exact sr.bv a (h1 a ha b) ⟨k, l, ek⟩
  · obtain ⟨v, e1, r⟩ := sr.val i d hi hm
    exact ⟨v, e1, Rep.go e.tups e.frzs (fun a vs nb h => ⟨fun z => nb (hb a (by rw [h]; simp) z), e.keep _ _ (fun z => nb (.inl (tb a z))) h⟩) (fun a C nb h => ⟨fun z => nb (hb a (by rw [h]; simp) z), e.keep _ _ (fun z => nb (.inl (tb a z))) h⟩) (fun k hk => ⟨rfl, hk⟩) r⟩
  · obtain ⟨e1, r⟩ := sr.own i d hi hm
    refine ⟨e1, ?_⟩
    cases d with
    | lst ds =>
      obtain ⟨vs, h, rs⟩ := r
      exact ⟨vs, e.keep _ _ (fun z => (sr.br i _ hi hm).1 (tb _ z)) h, Reps.go e.tups e.frzs (fun a vs nb h => ⟨fun z => nb (hb a (by rw [h]; simp) z), e.keep _ _ (fun z => nb (.inl (tb a z))) h⟩) (fun a C nb h => ⟨fun z => nb (hb a (by rw [h]; simp) z), e.keep _ _ (fun z => nb (.inl (tb a z))) h⟩) (fun k hk => ⟨rfl, hk⟩) rs⟩
    | dic t kd =>
      obtain ⟨u, ks, ws, ds, h, o, rs, q⟩ := r
      exact ⟨u, ks, ws, ds, e.keep _ _ (fun z => (sr.br i _ hi hm).1 (tb _ z)) h, o, Reps.go e.tups e.frzs (fun a vs nb h => ⟨fun z => nb (hb a (by rw [h]; simp) z), e.keep _ _ (fun z => nb (.inl (tb a z))) h⟩) (fun a C nb h => ⟨fun z => nb (hb a (by rw [h]; simp) z), e.keep _ _ (fun z => nb (.inl (tb a z))) h⟩) (fun k hk => ⟨rfl, hk⟩) rs, q⟩
    | _ => exact r.elim
theorem reps_gen {pl : Pl} {B B' T : Addr → Prop} (e : Ext T H H') (tb : ∀ a, T a → B a) (hb : ∀ a, H a ≠ none → B' a → B a) {vs : List V} {ds : List D} (x : Reps G pl H B vs ds) : Reps G pl H' B' vs ds :=
  Reps.go e.tups e.frzs (fun a vs nb h => ⟨fun z => nb (hb a (by rw [h]; simp) z), e.keep _ _ (fun z => nb (tb a z)) h⟩) (fun a C nb h => ⟨fun z => nb (hb a (by rw [h]; simp) z), e.keep _ _ (fun z => nb (tb a z)) h⟩) (fun k hk => ⟨rfl, hk⟩) x
theorem sr_wipe {B0 : Addr → Prop} {R : Nat → Addr} {pl : Pl} {m : Slots} {o : Objs} (sr : SR G O B0 R pl m o σ H) : ∀ vs : List Nat, (∀ i ∈ vs, i ∉ O) → SR G O B0 R pl (wipeD m vs) o (wipe σ vs) H
  | [], _ => sr
  | v :: vs, h => sr_wipe1 (sr_wipe sr vs fun i hi => h i (List.mem_cons_of_mem _ hi)) (h v (List.mem_cons_self ..))
theorem wipeD_at {m : Slots} {j : Nat} : ∀ {vs : List Nat}, j ∉ vs → (wipeD m vs)[j]? = m[j]?
  | [], _ => rfl
  | v :: vs, h => by
    show ((wipeD m vs).set v none)[j]? = _
    rw [set_other fun z => h (by rw [z]; exact List.mem_cons_self ..), wipeD_at fun z => h (List.mem_cons_of_mem _ z)]
theorem wipe_at {j : Nat} : ∀ {vs : List Nat}, j ∉ vs → (wipe σ vs)[j]? = σ[j]?
  | [], _ => rfl
  | v :: vs, h => by
    show ((wipe σ vs).set v none)[j]? = _
    rw [set_other fun z => h (by rw [z]; exact List.mem_cons_self ..), wipe_at fun z => h (List.mem_cons_of_mem _ z)]
theorem wipe_in {j : Nat} : ∀ {vs : List Nat}, j ∈ vs → j < σ.length → (wipe σ vs)[j]? = some none
  | v :: vs, h, l => by
    show ((wipe σ vs).set v none)[j]? = _
    by_cases z : j = v
    · subst z
      rw [List.getElem?_set_self (by rw [wipe_length]; exact l)]
    · rw [set_other z]
      exact wipe_in ((List.mem_cons.mp h).resolve_left z) l
theorem wipe_eq {σ2 : L2.St} {vs : List Nat} (h : ∀ j, j ∉ vs → σ2[j]? = (wipe σ vs)[j]?) (l : σ2.length = (wipe σ vs).length) : wipe σ2 vs = wipe σ vs := by
  apply List.ext_getElem?
  intro j
  rw [wipe_length] at l
  by_cases z : j ∈ vs
  · by_cases lj : j < σ.length
    · rw [wipe_in z lj, wipe_in z (by rw [l]; exact lj)]
    · rw [List.getElem?_eq_none (by rw [wipe_length]; omega), List.getElem?_eq_none (by rw [wipe_length]; omega)]
  · rw [wipe_at z, h j z]
theorem Bv.congr {B0 : Addr → Prop} {R : Nat → Addr} {pl : Pl} {m m' : Slots} {o : Objs} (h : ∀ j ∈ O, m'[j]? = m[j]?) : Bv G O B0 R pl m' o = Bv G O B0 R pl m o := by
  funext a
  refine propext ⟨fun z => ?_, fun z => ?_⟩
  · rcases z with z | ⟨j, d, hj, hm, q⟩ | z
    · exact .inl z
    · exact .inr (.inl ⟨j, d, hj, by rw [← h j hj]; exact hm, q⟩)
    · exact .inr (.inr z)
  · rcases z with z | ⟨j, d, hj, hm, q⟩ | z
    · exact .inl z
    · exact .inr (.inl ⟨j, d, hj, by rw [h j hj]; exact hm, q⟩)
    · exact .inr (.inr z)
theorem Post.shut {α : Type} {x : M α} {o : Objs} {P : α → Objs → Prop} {E : Nat → Objs → Prop} (h : Post (shut x) o P E) : Post x o P fun _ _ => False := by
  unfold Post WB.shut at h
  unfold Post
  revert h
  cases x o with
  | ok a o' => exact fun h => h
  | exn k o' => exact fun h => h
  | stuck => exact fun h => h
theorem cm_bind (t : Tg) (d : D) (m : Slots) : Cm (bindD t d m) := by
  unfold bindD
  split
  · exact .pure
  · split
    · exact .ite .pure .fail
    · exact .ite .pure .fail
    · exact .fail
def TCv (G : Glob) (O : List Nat) (W : WX) (Φ : Fns) (c : Option E) : TT := fun σ H Q => ∃ f : Fs G O σ H, Post (evC Φ c f.m) f.o (KT G O f Q) (KX G O W f)
theorem PTs.imp {es : List Expr} {t t' : TT} (h : PTs X es t) (w : ∀ σ H Q, t' σ H Q → t σ H Q) : PTs X es t' := ⟨fun pins s σ H Q I q => h.run pins s σ H Q I (w σ H Q q)⟩
theorem c_nil : PTs X [] (TCv G O W Φ none) := PTs.imp pts_nil fun σ H Q ⟨f, h⟩ => (show KT G O f Q true f.o from h) H f (.refl f) rfl
theorem c_one {e : Expr} {c : E} (h : PT X e (TTv G O W Φ c)) : PTs X [e] (TCv G O W Φ (some c)) := PTs.imp (pts_one h) fun σ H Q z => z
theorem TCv.then {c : Option E} {α : Type} {k : Bool → M α} (f : Fs G O σ H) {P : α → Objs → Prop} {Q : Bool → Hp → Prop} (h : Post (evC Φ c f.m >>= k) f.o P (KX G O W f))
    (q : ∀ H1 (f1 : Fs G O σ H1) b, f.To f1 → Post (k b) f1.o P (KX G O W f1) → Q b H1) : TCv G O W Φ c σ H Q := by
  refine ⟨f, Post.mono (Post.bind.mp h) (fun d o' hd H1 f1 t e => ?_) fun _ _ z => z⟩
  subst e
  exact q H1 f1 d t (Post.mono hd (fun _ _ z => z) fun _ _ z => z.to t)
abbrev W0 : WX := fun _ _ _ _ => False
theorem KX.none {f : Fs G O σ H} {k : Nat} {o' : Objs} (h : False) : KX G O W f k o' := h.elim
theorem TIv.then {c : E} {sf : Bool} {α : Type} {k : List D → M α} (f : Fs G O σ H) {P : α → Objs → Prop} {R : It → Hp → Prop} (h : Post (evI Φ c f.m >>= k) f.o P (KX G O W f))
    (q : ∀ J H1 (f1 : Fs G O σ H1) ds, f.To f1 → ItOk J ds f1 (if sf = true then f1.B else Vol G f1.o f1.pl) → Post (k ds) f1.o P (KX G O W f1) → R J H1) : TIv G O W Φ c sf σ H R := by
  refine ⟨f, Post.mono (Post.bind.mp h) (fun d o' hd J H1 f1 t e x => ?_) fun _ _ z => z⟩
  subst e
  exact q J H1 f1 d t x (Post.mono hd (fun _ _ z => z) fun _ _ z => z.to t)
def turnC (Φ : Fns) (t : Tg) (c : Option E) (elt : E) (own : List Nat) (m : Slots) (x : D) : M (Option D) := bindD t x (wipeD m own) >>= fun m' => evC Φ c m' >>= fun b => if b then evE Φ elt m' >>= fun y => pure (some y) else pure none
theorem TCv.thenE {c : Option E} {α : Type} {k : Bool → M α} (f : Fs G O σ H) {P : α → Objs → Prop} {E0 : Nat → Objs → Prop} {Q : Bool → Hp → Prop} (h : Post (evC Φ c f.m >>= k) f.o P E0) (hE : ∀ k o', E0 k o' → KX G O W f k o')
    (q : ∀ H1 (f1 : Fs G O σ H1) b, f.To f1 → Post (k b) f1.o P E0 → Q b H1) : TCv G O W Φ c σ H Q := by
  refine ⟨f, Post.mono (Post.bind.mp h) (fun d o' hd H1 f1 t e => ?_) hE⟩
  subst e
  exact q H1 f1 d t hd
theorem TEv.thenE {c : E} {sf fr : Bool} {α : Type} {k : D → M α} (f : Fs G O σ H) {P : α → Objs → Prop} {E0 : Nat → Objs → Prop} {Q : VK} (h : Post (evE Φ c f.m >>= k) f.o P E0) (hE : ∀ k o', E0 k o' → KX G O W f k o')
    (q : ∀ v H1 (f1 : Fs G O σ H1) d, f.To f1 → Val G O σ f1 f sf fr v d → Post (k d) f1.o P E0 → Q v H1) : TEv G O W Φ c sf fr σ H Q := by
  refine ⟨f, Post.mono (Post.bind.mp h) (fun d o' hd v H1 f1 t e x => ?_) hE⟩
  subst e
  exact q v H1 f1 d t x hd
theorem comp_back {B1 : Addr → Prop} {R : Nat → Addr} {pl : Pl} {m : Slots} {o : Objs} {σ2 : L2.St} {H6 : Hp} (sr : SR G O B1 R pl m o σ H) (f6 : Fs G O σ2 H6) (st : Step G o f6.o pl f6.pl H H6) (b : f6.B0 = B1) (r : f6.R = R) (mm : ∀ j ∈ O, f6.m[j]? = m[j]?) : SR G O B1 R f6.pl m f6.o σ H6 := by
  refine sr.step st ?_
  rw [← Bv.congr mm, ← b, ← r]
  exact f6.sr.obj
theorem nil_of_bad {α β : Type} {x : M α} {o : Objs} {E : Nat → Objs → Prop} {P : β → Objs → Prop} (h : Post (shut x >>= fun _ => (M.fail : M β)) o P E) : False := by
  have h2 := Post.shut (Post.bind.mp h)
  unfold Post at h2
  revert h2
  cases x o with
  | ok a o' => exact fun h => h
  | exn k o' => exact fun h => h
  | stuck => exact fun h => h
theorem t_comp {t : Tg} {it elt : E} {cnd : Option E} {own : List Nat} {sf fe : Bool} {Q : VK} (hO : ∀ i ∈ own, i ∉ O) (ht : ∀ i ∈ t.slots, i ∈ own) (h : TEv G O W Φ (.comp t it cnd elt own) true true σ H Q) :
    tLc (TIv G O W Φ it sf) (TGv G O t) (TCv G O W0 Φ cnd) (TEv G O W0 Φ elt true fe) own σ H Q := by
  obtain ⟨f, h⟩ := h
  have h' : Post (evI Φ it f.m >>= fun xs => shut (mapM' (turnC Φ t cnd elt own f.m) xs) >>= fun ys => if xs.length < sz then pure (.lst ys) else M.fail) f.o (KE G O f true true Q) (KX G O W f) := h
  refine TIv.then f h' fun J H1 f1 xs tt ok h1 => ?_
  intro Da hDa
  have cl : xs.length < sz := by
    apply Classical.byContradiction
    intro c
    have e : (fun ys : List D => if xs.length < sz then (pure (.lst ys) : M D) else M.fail) = fun _ => M.fail := by
      funext ys
      rw [if_neg c]
    rw [e] at h1
    exact nil_of_bad h1
  have h2 : Post (mapM' (turnC Φ t cnd elt own f1.m) xs) f1.o (fun ys o' => KE G O f true true Q (.lst ys) o') fun _ _ => False := by
    rw [tt.m]
    refine (Post.shut (Post.bind.mp h1)).mono (fun ys o' z => ?_) fun _ _ z => z
    rw [if_pos cl] at z
    exact z
  have nb : ¬ f1.B Da := fun z => f1.sr.some z hDa
  have B1d : ∀ a, (fun a => f1.B0 a ∨ a = Da) a → H1 a ≠ none → f1.B0 a := fun a z ha => z.elim id fun q => absurd hDa (q ▸ ha)
  refine ⟨fun i m H' => m = xs.length - i ∧ i ≤ xs.length ∧ ∃ (o : Objs) (pl : Pl) (acc : List V) (accD : List D), H' Da = some (.lst acc) ∧ acc.length ≤ i ∧ SR G O (fun a => f1.B0 a ∨ a = Da) f1.R pl f1.m o σ H' ∧ Step G f1.o o f1.pl pl H1 H' ∧
    Reps G pl H' (Bv G O (fun a => f1.B0 a ∨ a = Da) f1.R pl f1.m o) acc accD ∧ Post (mapM' (turnC Φ t cnd elt own f1.m) (xs.drop i)) o (fun r o' => KE G O f true true Q (.lst (accD ++ r)) o') fun _ _ => False, ⟨xs.length, by omega, Nat.zero_le _, f1.o, f1.pl, [], [], upd_same, Nat.le_refl _, ?_, ?_, .nil, h2⟩, ?_⟩
  · refine sr_gen f1.sr (T := fun _ => False) (Ext.new hDa) (fun _ z => z.elim) (fun a ha z => B1d a z ha) fun a z => ?_
    rcases z with z | z
    · intro q
      exact f1.sr.old a z ((Ext.new (T := fun _ => False) hDa).dom a q)
    · rw [z, upd_same]; simp
  · exact Step.al (Ext.new hDa)
  rintro i m H' ⟨em, il, o, pl, acc, accD, hD, la, sr, st, rs, hp⟩
  have tr : Tr f1 (if sf = true then f1.B else Vol G f1.o f1.pl) pl H' (Bv G O (fun a => f1.B0 a ∨ a = Da) f1.R pl f1.m o) := by
    refine ⟨st.ext.mono fun a z => ?_, fun a ha z => ?_, fun k hk => ⟨(st.agree (.ob k) (f1.sr.obj.obK hk)).1, Nat.lt_of_lt_of_le hk st.n⟩⟩
    · cases sf with
      | true => exact Bv.vol z
      | false => exact z
    · rcases z with z | z | z
      · exact .inl (B1d a z ha)
      · exact .inr (.inl z)
      · exact .inr (.inr (st.vol z ha))
  obtain ⟨okI, okS⟩ := ok pl H' _ tr
  have nD : ¬ Vol G o pl Da := sr.bv Da (.inr rfl)
  by_cases lt : i < xs.length
  · refine .inr ?_
    have ex : xs[i]? = some xs[i] := List.getElem?_eq_getElem lt
    obtain ⟨g1, g2⟩ := okI i _ ex
    refine ⟨g1, fun H6 => _, fun H6 z => ⟨xs.length - (i + 1), by omega, z⟩, fun x H2 y => ?_⟩
    obtain ⟨al, rx⟩ := g2 x H2 y
    rw [List.drop_eq_getElem_cons lt] at hp
    have hp2 : Post (turnC Φ t cnd elt own f1.m xs[i] >>= fun a => mapM' (turnC Φ t cnd elt own f1.m) (xs.drop (i + 1)) >>= fun r => pure (match a with | some y => y :: r | none => r)) o (fun r o' => KE G O f true true Q (.lst (accD ++ r)) o') fun _ _ => False := hp
    unfold turnC at hp2
    rw [bnd_assoc] at hp2
    obtain ⟨m', eb, kb⟩ := (cm_bind t xs[i] (wipeD f1.m own)).post (Post.bind.mp hp2)
    have srA := sr.al al
    have srW := sr_wipe srA own hO
    have bW : ∀ j ∈ O, (wipeD f1.m own)[j]? = f1.m[j]? := fun j hj => wipeD_at fun z => hO j z hj
    let f3 : Fs G O (wipe σ own) H2 := ⟨fun a => f1.B0 a ∨ a = Da, f1.R, pl, wipeD f1.m own, o, srW⟩
    have rx3 : Rep G f3.pl H2 f3.B x xs[i] := by
      show Rep G pl H2 (Bv G O (fun a => f1.B0 a ∨ a = Da) f1.R pl (wipeD f1.m own) o) x xs[i]
      rw [Bv.congr bW]
      exact rx
    refine ⟨f3, xs[i], m', rx3, eb, fun σ2 f4 go e1 e2 e3 e4 e5 e6 e7 e8 => ⟨wipe_eq (fun j hj => e6 j fun z => hj (ht j z)) e7, ?_⟩⟩
    have kb2 : Post (evC Φ cnd f4.m >>= fun b => (if b then evE Φ elt f4.m >>= fun y => pure (some y) else pure none) >>= fun a => mapM' (turnC Φ t cnd elt own f1.m) (xs.drop (i + 1)) >>= fun r => pure (match a with | some y => y :: r | none => r)) f4.o (fun r o' => KE G O f true true Q (.lst (accD ++ r)) o') (fun _ _ => False) := by
      rw [e1, e2, ← bnd_assoc]
      exact kb
    have m4 : ∀ j ∈ O, f4.m[j]? = f1.m[j]? := fun j hj => (e8 j hj).trans (bW j hj)
    have hD2 : H2 Da = some (.lst acc) := al.keep _ _ (fun z => z) hD
    refine TCv.thenE f4 kb2 (fun _ _ z => z.elim) fun H5 f5 b t5 k5 => ?_
    have st5 : Step G o f5.o pl f5.pl H2 H5 := by have := t5.st; rw [e2, e5] at this; exact this
    cases b with
    | false =>
      have sr5 := comp_back srA f5 st5 (t5.b0.trans e3) (t5.r.trans e4) fun j hj => by rw [t5.m]; exact m4 j hj
      refine ⟨rfl, by omega, f5.o, f5.pl, acc, accD, st5.ext.keep _ _ nD hD2, by omega, sr5, st.trans ((Step.al al).trans st5), ?_, ?_⟩
      · exact (Reps.al rs al fun _ _ z => z).step srA.obj st5 f5.sr.obj.n (fun a z => Bv.vol z) fun a ha z => Bv.step st5 ha z
      · have k6 : Post (mapM' (turnC Φ t cnd elt own f1.m) (xs.drop (i + 1)) >>= fun r => pure r) f5.o (fun r o' => KE G O f true true Q (.lst (accD ++ r)) o') (fun _ _ => False) := k5
        rw [bnd_pure] at k6
        exact k6
    | true =>
      have k6 : Post (evE Φ elt f5.m >>= fun y => mapM' (turnC Φ t cnd elt own f1.m) (xs.drop (i + 1)) >>= fun r => pure (y :: r)) f5.o (fun r o' => KE G O f true true Q (.lst (accD ++ r)) o') (fun _ _ => False) := by
        have : Post ((evE Φ elt f4.m >>= fun y => pure (some y)) >>= fun a => mapM' (turnC Φ t cnd elt own f1.m) (xs.drop (i + 1)) >>= fun r => pure (match a with | some y => y :: r | none => r)) f5.o (fun r o' => KE G O f true true Q (.lst (accD ++ r)) o') (fun _ _ => False) := k5
        rw [bnd_assoc, ← t5.m] at this
        exact this
      refine TEv.thenE f5 k6 (fun _ _ z => z.elim) fun yv H6 f6 dy t6 vy k7 => ?_
      have st6 : Step G o f6.o pl f6.pl H2 H6 := st5.trans t6.st
      have sr6 := comp_back srA f6 st6 (t6.b0.trans (t5.b0.trans e3)) (t6.r.trans (t5.r.trans e4)) fun j hj => by rw [t6.m, t5.m]; exact m4 j hj
      have hD6 : H6 Da = some (.lst acc) := st6.ext.keep _ _ nD hD2
      have ex6 : Ext (fun a => a = Da) H6 (upd H6 Da (.lst (acc ++ [yv]))) := by
        refine ⟨fun a u na e => ?_, fun a us e => ?_, fun a u w e => ?_, fun a q e => ?_, fun a e => ?_⟩
        · rw [upd_ne na]; exact e
        · rw [upd_ne (fun z => by rw [z, hD6] at e; cases e)]; exact e
        · rw [upd_ne (fun z => by rw [z, hD6] at e; cases e)]; exact e
        · rw [upd_ne (fun z => by unfold LamX.CodeO at e; rw [z, hD6] at e; cases e)]; exact e
        · by_cases z : a = Da
          · rw [z, upd_same] at e; cases e
          · rw [upd_ne z] at e; exact e
      have nD6 : ¬ Vol G f6.o f6.pl Da := sr6.bv Da (.inr rfl)
      have rs6 : Reps G f6.pl H6 (Bv G O (fun a => f1.B0 a ∨ a = Da) f1.R f6.pl f1.m f6.o) (acc ++ [yv]) (accD ++ [dy]) := by
        refine ((Reps.al rs al fun _ _ z => z).step srA.obj st6 f6.sr.obj.n (fun a z => Bv.vol z) fun a ha z => Bv.step st6 ha z).append (.cons ?_ .nil)
        have r1 := vy.sf rfl
        have eB : f6.B = Bv G O (fun a => f1.B0 a ∨ a = Da) f1.R f6.pl f1.m f6.o := by
          show Bv G O f6.B0 f6.R f6.pl f6.m f6.o = _
          rw [t6.b0.trans (t5.b0.trans e3), t6.r.trans (t5.r.trans e4)]
          exact Bv.congr fun j hj => by rw [t6.m, t5.m]; exact m4 j hj
        rw [eB] at r1
        exact r1
      refine ⟨acc, hD6, ?_, rfl, by omega, f6.o, f6.pl, acc ++ [yv], accD ++ [dy], upd_same, by rw [List.length_append]; show acc.length + 1 ≤ _; omega, ?_, ?_, ?_, ?_⟩
      · rw [← sz_line]; omega
      · exact sr_gen sr6 ex6 (fun a z => .inr z) (fun a _ z => z) fun a z q => sr6.old a z (ex6.dom a q)
      · have s6 := st.trans ((Step.al al).trans st6)
        have ne : ∀ a u, H1 a = some u → a ≠ Da := fun a u e z => by rw [z, hDa] at e; cases e
        refine ⟨⟨fun a u nv e => ?_, fun a us e => ?_, fun a u w e => ?_, fun a q e => ?_, fun a e => s6.ext.dom a (ex6.dom a e)⟩, s6.agree, s6.fresh, s6.n⟩
        · rw [upd_ne (ne a u e)]; exact s6.ext.keep a u nv e
        · rw [upd_ne (ne a _ e)]; exact s6.ext.tups a us e
        · rw [upd_ne (ne a _ e)]; exact s6.ext.frzs a u w e
        · rw [upd_ne (ne a _ e)]; exact s6.ext.cods a q e
      · exact reps_gen ex6 (fun a z => .inl (.inr z)) (fun a _ z => z) rs6
      · have k8 := Post.bind.mp k7
        refine k8.mono (fun r o' z => ?_) fun k o' z => z
        rw [List.append_assoc]
        exact z
  · refine .inl ?_
    have ei : i = xs.length := by omega
    subst ei
    refine ⟨okS, ?_⟩
    rw [List.drop_length] at hp
    have hk : KE G O f true true Q (.lst accD) o := by
      have := (show KE G O f true true Q (.lst (accD ++ [])) o from hp)
      rw [List.append_nil] at this
      exact this
    have sr' : SR G O f1.B0 f1.R pl f1.m o σ H' := sr_gen sr (T := fun _ => False) Ext.refl (fun _ z => z.elim) (fun a _ z => .inl z) fun a z => sr.old a (.inl z)
    let f' : Fs G O σ H' := ⟨f1.B0, f1.R, pl, f1.m, o, sr'⟩
    have to' : f.To f' := tt.trans ⟨rfl, rfl, rfl, st⟩
    have nb' : ¬ f'.B Da := fun z => by
      rcases z with z | ⟨j, d, hj, hm, q⟩ | z
      · exact f1.sr.old Da z hDa
      · exact (sr.br j d hj hm).1 (.inr q)
      · exact nD z
    have bb : ∀ a, (fun a => f'.B a ∨ a = Da) a → Bv G O (fun a => f1.B0 a ∨ a = Da) f1.R pl f1.m o a := fun a z => by
      rcases z with (z | z | z) | z
      · exact .inl (.inl z)
      · exact .inr (.inl z)
      · exact .inr (.inr z)
      · exact .inl (.inr z)
    have rep : Rep G f'.pl H' f'.B (.ref Da) (.lst accD) := .lst nb' hD (reps_gen (T := fun _ => False) Ext.refl (fun _ z => z.elim) (fun a _ z => bb a (.inl z)) rs)
    exact hk (.ref Da) H' f' to' rfl ⟨.inl rep, fun _ => rep, fun _ _ => ⟨Da, rfl, tt.st.ext.dom Da hDa, nb', ⟨acc, hD, reps_gen (T := fun _ => False) Ext.refl (fun _ z => z.elim) (fun a _ z => bb a z) rs⟩, or_gen (T := fun _ => False) sr.obj Ext.refl (fun _ z => z.elim) (fun _ z => z.elim) fun a _ z => bb a z⟩⟩
theorem XO.blk (xo : XO G W X) (s : Shared) (H : Hp) (scope : Scope) (cenv : Env) (fp : List Addr) : XO G W0 (X.blk s H scope cenv fp) := ⟨xo.K, xo.calm, xo.nd, xo.u, takes0, xo.pw⟩
theorem e_comp {e tg iter : Expr} {ifs : List Expr} {scope : Scope} {pos : Pos} {t : Tg} {it ce : E} {cnd : Option E} {sf fe : Bool} (xo : XO G W X) (own : List (PySem.Str × Nat)) (ok : blkC X.N X.env.scope scope own = true) (hi : PI X tg iter (TIv G O W Φ it sf))
    (hg : ∀ (s : Shared) (H : Hp) (C : Addr) (cl : List (PySem.Str × Addr)) (fp : List Addr), PG (X.blk s H scope (compEnvC scope cl C X.env) fp) tg (TGv G O t))
    (ht : ∀ (s : Shared) (H : Hp) (C : Addr) (cl : List (PySem.Str × Addr)) (fp : List Addr), PTs (X.blk s H scope (compEnvC scope cl C X.env) fp) ifs (TCv G O W0 Φ cnd))
    (he : ∀ (s : Shared) (H : Hp) (C : Addr) (cl : List (PySem.Str × Addr)) (fp : List Addr), PE (X.blk s H scope (compEnvC scope cl C X.env) fp) e (TEv G O W0 Φ ce true fe))
    (hO : ∀ i ∈ own.map (·.2), i ∉ O := by decide) (hts : ∀ i ∈ t.slots, i ∈ own.map (·.2) := by decide) (hs : ∀ x, foldedSetIterable iter X.env x = pure x := by intro _; rfl) :
    PE X (.ListComp e [⟨tg, iter, ifs, 0⟩] scope pos) (TEv G O W Φ (.comp t it cnd ce (own.map (·.2))) true true) :=
  PE.imp (pe_lc xo.calm xo.nd hi (blkOk_by ok) hg ht he hs) fun _ _ _ h => t_comp hO hts h
end
end WB
namespace WB
open PySem L2
def Bx (G : Glob) (B0 : Addr → Prop) (pl : Pl) (o : Objs) (a : Addr) : Prop := B0 a ∨ Vol G o pl a
def spD (G : Glob) (n : Nat) (den : List D → M D) : Sp := fun vs H Q E => vs.length = n ∧ ∃ (B0 : Addr → Prop) (pl : Pl) (o : Objs) (ds : List D), (∀ a, B0 a → H a ≠ none) ∧ (∀ a, B0 a → ¬ Vol G o pl a) ∧ OR G pl o H (Bx G B0 pl o) ∧ Reps G pl H (Bx G B0 pl o) vs ds ∧
  Post (den ds) o (fun d o' => ∀ v H' pl', Step G o o' pl pl' H H' → OR G pl' o' H' (Bx G B0 pl' o') → Rep G pl' H' (Bx G B0 pl' o') v d → Q v H')
    (fun k o' => ∀ H' pl', Step G o o' pl pl' H H' → OR G pl' o' H' (Bx G B0 pl' o') → E (.ref (G.clsA k)) none H')
structure Fc (G : Glob) (P : Program) (w : World) (K : PySem.W.Frag) (mg : PySem.Str → Option Value) (base : Heap) (A : Around) (x : PySem.Str) (n : Nat) (den : List D → M D) : Prop where
  ex : ∃ (lv : Nat) (fa : Addr) (fd : FuncData) (ps : List PySem.Str), FnOk P w K mg base (L2.CX P w) lv fa fd ps (spD G n den) ∧ Room lv A ∧ mg x = some (.ref fa) ∧ PySem.W.keepIn K (.ref fa) = true ∧ Binds K fd ps []
section
variable {G : Glob} {O : List Nat} {W : WX} {Φ : Fns} {X : Cx} {σ : L2.St} {H H' : Hp} {pos : Pos} {e : Expr} {es : List Expr} {ce : E} {ces : List E}
theorem bx_eq {B0 : Addr → Prop} {R : Nat → Addr} {pl : Pl} {m : Slots} {o : Objs} : Bx G (fun a => B0 a ∨ ∃ i d, i ∈ O ∧ m[i]? = some (some d) ∧ R i = a) pl o = Bv G O B0 R pl m o := by
  funext a
  exact propext or_assoc
theorem Reps.sub {pl : Pl} {B B' : Addr → Prop} {vs : List V} {ds : List D} (x : Reps G pl H B vs ds) (h : ∀ a, B' a → B a) : Reps G pl H B' vs ds := reps_gen (T := fun _ => False) Ext.refl (fun _ z => z.elim) (fun a _ z => h a z) x
theorem Rep.sub {pl : Pl} {B B' : Addr → Prop} {v : V} {d : D} (x : Rep G pl H B v d) (h : ∀ a, B' a → B a) : Rep G pl H B' v d := by
  cases (Reps.cons x .nil).sub h with
  | cons r _ => exact r
theorem OR.sub {pl : Pl} {o : Objs} {B B' : Addr → Prop} (x : OR G pl o H B) (h : ∀ a, B' a → B a) : OR G pl o H B' := or_gen (T := fun _ => False) x Ext.refl (fun _ z => z.elim) (fun _ z => z.elim) fun a _ z => h a z
theorem sp_frame {n : Nat} {Q : VK} {H1 : Hp} {den : List D → M D} {vs : List V} {ds : List D} (f1 : Fs G O σ H1) (r : Reps G f1.pl H1 f1.B vs ds) (hl : vs.length = n) (h1 : Post (den ds) f1.o (KE G O f1 true false Q) (KX G O W f1)) : spD G n den vs H1 Q (WE W σ) := by
  refine ⟨hl, (fun a => f1.B0 a ∨ ∃ i d, i ∈ O ∧ f1.m[i]? = some (some d) ∧ f1.R i = a), f1.pl, f1.o, ds, fun a z => ?_, fun a z => ?_, ?_, ?_, ?_⟩
  · exact f1.sr.some (z.elim .inl fun q => .inr (.inl q))
  · rcases z with z | ⟨i, d, hi, hm, q⟩
    · exact f1.sr.bv a z
    · rw [← q]; exact (f1.sr.br i d hi hm).2
  · rw [bx_eq]; exact f1.sr.obj
  · rw [bx_eq]; exact r
  · refine Post.mono h1 (fun d o' hd v H' pl' st r' rv => ?_) fun k o' hk H' pl' st r' => ?_
    · rw [bx_eq] at r' rv
      exact hd v H' (f1.at (f1.sr.step st r')) ⟨rfl, rfl, rfl, st⟩ rfl ⟨.inl rv, fun _ => rv, nofun⟩
    · rw [bx_eq] at r'
      exact hk H' (f1.at (f1.sr.step st r')) ⟨rfl, rfl, rfl, st⟩ rfl
theorem t_call {n k : Nat} {Q : VK} (h : TEv G O W Φ (.call k ces) true false σ H Q) (hn : ces.length = n) : tCallS (spD G n (Φ k)) (WE W) (TAv G O W Φ ces true) σ H Q := by
  obtain ⟨f, h⟩ := h
  refine TAv.then2 f h fun vs H1 f1 ds t x l h1 => ?_
  have r := x.sf rfl
  exact sp_frame f1 r (by rw [r.length, l, hn]) (h1.mono (fun _ _ z => z.to t) fun _ _ z => z)
theorem e_call {x : PySem.Str} {p : Pos} {n : Nat} (xo : XO G W X) (k : Nat) (F : Fc G X.prog X.w X.K X.mg X.base X.A x n (Φ k)) (ha : PA X (e :: es) (TAv G O W Φ ces true)) (hn : ces.length = n := by rfl) (hg : Gl X x := by rfl) (hdb : (x == ("__debug__" : PySem.Str)) = false := by decide)
    (he : starEach (e :: es) X.env = (false, eval e X.env) :: starEach es X.env := by rfl) (hpl : (backTo pos (starEach es X.env)).any (·.1) = false := by rfl) : PE X (.Call (.Name x p) (e :: es) [] pos) (TEv G O W Φ (.call k ces) true false) := by
  obtain ⟨lv, fa, fd, ps, ok, room, hm, hk, hb⟩ := F.ex
  exact PE.imp (pe_callS ok room hg hm hk hb (fun σ => passAt xo.tk σ) ha hdb he hpl) fun _ _ _ h => t_call h hn
theorem e_isi {T : PySem.Str} {p p2 : Pos} {sf fr : Bool} (xo : XO G W X) (t : Ty) (ht : t = .str ∨ t = .tuple ∨ t = .int ∨ t = .bool ∨ t = .list) (hm : X.mg "isinstance" = none) (hmT : X.mg T = none) (hT : bootBuiltins T = some (.type (tyName t))) (he : PE X e (TEv G O W Φ ce sf fr)) (hg : Gl X "isinstance" := by rfl) (hgT : Gl X T := by rfl) (hn : T ≠ "__name__" := by decide) (hd : (T == ("__debug__" : PySem.Str)) = false := by decide)
    (hst : starEach [e, .Name T p2] X.env = (false, eval e X.env) :: starEach [.Name T p2] X.env := by rfl) (hpl : (backTo pos (starEach [.Name T p2] X.env)).any (·.1) = false := by rfl) :
    PE X (.Call (.Name "isinstance" p) [e, .Name T p2] [] pos) (TEv G O W Φ (.isi ce t) true false) :=
  PE.imp (pe_callB (ok_isB xo.K ht) hg hm (by decide +kernel) (pa_cons he (pa_cons (pe_bltn (v := .ty (tyName t)) hgT hmT hT rfl hn hd) pa_nil rfl) hst) (by decide) (by decide) hst hpl) fun σ H Q ⟨f, h⟩ => by
    refine TEv.then f h fun v H1 f1 d tt x h1 => ?_
    obtain ⟨b, eb, kb⟩ := (cm_isD d t).post (Post.bind.mp h1)
    refine ⟨f1.pl, f1.o, f1.B, d, v, rfl, x.rt, ?_⟩
    rw [eb]
    exact (show KE G O f true false Q (.bl b) f1.o from kb) _ H1 f1 tt rfl ⟨.inl (.bl b), fun _ => .bl b, nofun⟩
end
end WB
namespace WB
open PySem L2
section
variable (G : Glob) (O : List Nat) (W : WX) (Φ : Fns) (F : Nat)
def KXs {σ : L2.St} {H : Hp} (f : Fs G O σ H) : Nat → Objs → Prop := fun k o' => ∀ σ' H' (f' : Fs G O σ' H'), f.Go f' → f'.o = o' → W (.ref (G.clsA k)) none σ' H'
def KS {σ : L2.St} {H : Hp} (f : Fs G O σ H) (D : Ends) : Fl → Objs → Prop := fun fl o' => match fl with
  | .next m' => ∀ σ' H' (f' : Fs G O σ' H'), f.Go f' → f'.o = o' → f'.m = m' → D.nx σ' H'
  | .brk m' => ∀ σ' H' (f' : Fs G O σ' H'), f.Go f' → f'.o = o' → f'.m = m' → D.bk σ' H'
  | .cont m' => ∀ σ' H' (f' : Fs G O σ' H'), f.Go f' → f'.o = o' → f'.m = m' → D.ct σ' H'
  | .ret d => ∀ v σ' H' (f' : Fs G O σ' H'), f.Go f' → f'.o = o' → Rep G f'.pl H' (Bx G f'.B0 f'.pl f'.o) v d → D.rt v H'
def TSv (s : S) : TS := fun D σ H => ∃ f : Fs G O σ H, Post (exS Φ F s f.m) f.o (KS G O f D) (KXs G O W f)
def TLv (ss : List S) : TS := fun D σ H => ∃ f : Fs G O σ H, Post (exL Φ F ss f.m) f.o (KS G O f D) (KXs G O W f)
end
section
variable {G : Glob} {O : List Nat} {W : WX} {Φ : Fns} {F : Nat} {X : Cx} {σ σ1 : L2.St} {H H1 : Hp} {pos : Pos}
theorem KXs.to {f : Fs G O σ H} {f1 : Fs G O σ1 H1} {k : Nat} {o' : Objs} (h : KXs G O W f k o') (g : f.Go f1) : KXs G O W f1 k o' := fun σ' H' f' g' e => h σ' H' f' (g.trans g') e
theorem KS.to {f : Fs G O σ H} {f1 : Fs G O σ1 H1} {D : Ends} {fl : Fl} {o' : Objs} (h : KS G O f D fl o') (g : f.Go f1) : KS G O f1 D fl o' := by
  cases fl with
  | next m => exact fun σ' H' f' g' e1 e2 => h σ' H' f' (g.trans g') e1 e2
  | brk m => exact fun σ' H' f' g' e1 e2 => h σ' H' f' (g.trans g') e1 e2
  | cont m => exact fun σ' H' f' g' e1 e2 => h σ' H' f' (g.trans g') e1 e2
  | ret d => exact fun v σ' H' f' g' e1 e2 => h v σ' H' f' (g.trans g') e1 e2
theorem KXs.kx {f : Fs G O σ H} {k : Nat} {o' : Objs} (h : KXs G O W f k o') : KX G O W f k o' := fun H' f' t e => h σ H' f' t.go e
theorem l_nil : PSs X [] (TLv G O W Φ F []) := PSs.imp pss_nil fun D σ H ⟨f, h⟩ => (show KS G O f D (.next f.m) f.o from h) σ H f (.refl f) rfl rfl
theorem l_cons {st : Stmt} {rest : List Stmt} {c : S} {cs : List S} (h1 : PS X st (TSv G O W Φ F c)) (h2 : PSs X rest (TLv G O W Φ F cs)) : PSs X (st :: rest) (TLv G O W Φ F (c :: cs)) :=
  PSs.imp (pss_cons h1 h2) fun D σ H ⟨f, h⟩ => by
    have h' := Post.bind.mp (show Post (exS Φ F c f.m >>= fun fl => (match fl with | .next m' => exL Φ F cs m' | fl => pure fl)) f.o (KS G O f D) (KXs G O W f) from h)
    refine ⟨f, h'.mono (fun fl o' z => ?_) fun _ _ z => z⟩
    cases fl with
    | next m' =>
      intro σ' H' f' g e1 e2
      subst e1 e2
      exact ⟨f', Post.mono z (fun _ _ q => q.to g) fun _ _ q => q.to g⟩
    | brk m' => exact z
    | cont m' => exact z
    | ret d => exact z
theorem s_brk : PS X (.Break pos) (TSv G O W Φ F .brk) := PS.imp ps_break fun D σ H ⟨f, h⟩ => (show KS G O f D (.brk f.m) f.o from h) σ H f (.refl f) rfl rfl
variable {e tg iter : Expr} {c : E} {sf fr : Bool}
theorem TEv.thenS {α : Type} {k : D → M α} (f : Fs G O σ H) {P : α → Objs → Prop} {Q : VK} (h : Post (evE Φ c f.m >>= k) f.o P (KXs G O W f))
    (q : ∀ v H1 (f1 : Fs G O σ H1) d, f.To f1 → Val G O σ f1 f sf fr v d → Post (k d) f1.o P (KXs G O W f1) → Q v H1) : TEv G O W Φ c sf fr σ H Q :=
  TEv.thenE f h (fun _ _ z => z.kx) fun v H1 f1 d t x h1 => q v H1 f1 d t x (h1.mono (fun _ _ z => z) fun _ _ z => z.to t.go)
theorem TTv.thenS {α : Type} {k : Bool → M α} (f : Fs G O σ H) {P : α → Objs → Prop} {Q : Bool → Hp → Prop} (h : Post ((evE Φ c f.m >>= D.asB) >>= k) f.o P (KXs G O W f))
    (q : ∀ H1 (f1 : Fs G O σ H1) b, f.To f1 → Post (k b) f1.o P (KXs G O W f1) → Q b H1) : TTv G O W Φ c σ H Q := by
  refine ⟨f, Post.mono (Post.bind.mp h) (fun d o' hd H1 f1 t e => ?_) fun _ _ z => z.kx⟩
  subst e
  exact q H1 f1 d t (hd.mono (fun _ _ z => z) fun _ _ z => z.to t.go)
theorem bx_sub (f : Fs G O σ H) : ∀ a, Bx G f.B0 f.pl f.o a → f.B a := fun a z => z.elim .inl fun q => .inr (.inr q)
theorem s_ret (he : PE X e (TEv G O W Φ c true fr)) : PS X (.Return (some e) pos) (TSv G O W Φ F (.ret c)) :=
  PS.imp (ps_ret he) fun D σ H ⟨f, h⟩ => TEv.thenS f h fun v H1 f1 d t x h1 =>
    (show KS G O f D (.ret d) f1.o from h1) v σ H1 f1 t.go rfl ((x.sf rfl).sub (bx_sub f1))
theorem s_retO {x : PySem.Str} {px : Pos} (i : Nat) (hO : i ∈ O := by decide) (hk : i + 10000 ∉ O := by decide) (hN : X.N[i]? = some x := by rfl) (hv : Vis X.env.scope x := by first | exact .inl rfl | exact .inr (.inl rfl) | exact .inr (.inr rfl)) (hd : (x == ("__debug__" : PySem.Str)) = false := by decide) (hcd : (x == ("__classdict__" : PySem.Str)) = false := by decide) :
    PS X (.Return (some (.Name x px)) pos) (TSv G O W Φ F (.ret (.slot i))) :=
  PS.imp (ps_ret (pe_var hN hv hd hcd)) fun D σ H ⟨f, h⟩ => by
    have h2 : Post ((match f.m[i]? with | some (some d) => pure d | _ => M.fail) >>= fun d => pure (.ret d)) f.o (KS G O f D) (KXs G O W f) := h
    split at h2
    · rename_i d e
      obtain ⟨ev, r⟩ := f.sr.own i d hO e
      refine ⟨_, ev, (show KS G O f D (.ret d) f.o from h2) _ σ H f (.refl f) rfl ?_⟩
      cases d with
      | lst ds =>
        obtain ⟨vs, hh, rs⟩ := r
        exact .lst (fun z => z.elim (f.sr.br i _ hO e).1 (f.sr.br i _ hO e).2) hh (rs.sub (bx_sub f))
      | dic t kd =>
        have := f.sr.ty i _ hO e
        rw [decide_eq_false hk] at this
        cases this
      | _ => exact r.elim
    · exact h2.elim
theorem s_expr (he : PE X e (TEv G O W Φ c sf fr)) (hs : swapsWith e none pos.line X.env = pure false := by rfl) : PS X (.Expr e pos) (TSv G O W Φ F (.expr c)) :=
  PS.imp (ps_expr he hs) fun D σ H ⟨f, h⟩ => TEv.thenS f h fun v H1 f1 d t x h1 =>
    (show KS G O f D (.next f.m) f1.o from h1) σ H1 f1 t.go rfl t.m
theorem s_if {cd : Expr} {a b : List Stmt} {ca cb : List S} (hc : PT X cd (TTv G O W Φ c)) (ha : PSs X a (TLv G O W Φ F ca)) (hb : PSs X b (TLv G O W Φ F cb)) : PS X (.If cd a b pos) (TSv G O W Φ F (.ifS c ca cb)) :=
  PS.imp (ps_if hc ha hb) fun D σ H ⟨f, h⟩ => by
    have h' : Post (evE Φ c f.m >>= fun x => x.asB >>= fun t => if t then exL Φ F ca f.m else exL Φ F cb f.m) f.o (KS G O f D) (KXs G O W f) := h
    rw [ev_test] at h'
    refine TTv.thenS f h' fun H1 f1 b t k => ?_
    cases b with
    | true =>
      have k2 : Post (exL Φ F ca f.m) f1.o (KS G O f D) (KXs G O W f1) := k
      rw [← t.m] at k2
      exact ⟨f1, k2.mono (fun _ _ z => z.to t.go) fun _ _ z => z⟩
    | false =>
      have k2 : Post (exL Φ F cb f.m) f1.o (KS G O f D) (KXs G O W f1) := k
      rw [← t.m] at k2
      exact ⟨f1, k2.mono (fun _ _ z => z.to t.go) fun _ _ z => z⟩
theorem t_set {D : Ends} {i : Nat} (hO : i ∉ O) (h : TSv G O W Φ F (.set i c) D σ H) : tAsg (TEv G O W Φ c true fr) (gName i) D σ H := by
  obtain ⟨f, h⟩ := h
  refine TEv.thenS f h fun v H1 f1 d t x h1 => ?_
  have r := x.sf rfl
  refine (show KS G O f D (.next (f.m.set i (some d))) f1.o from h1) _ H1 (f1.set hO r) (t.go.trans (f1.set_go hO r)) rfl ?_
  show f1.m.set i (some d) = _
  rw [t.m]
theorem s_set {x : PySem.Str} {px : Pos} (xo : XO G W X) (i : Nat) (he : PE X e (TEv G O W Φ c true fr)) (hO : i ∉ O := by decide) (hi : X.N[i]? = some x := by rfl) (hx : Loc X.env.scope x := by first | exact .inl rfl | exact .inr rfl) (hs : swapsWith e (some (.Name x px)) pos.line X.env = pure false := by rfl) (hf : X.fn x = true ∨ X.env.scope.names.lookup x = some .local := by first | exact .inl rfl | exact .inr rfl) :
    PS X (.Assign [.Name x px] e pos) (TSv G O W Φ F (.set i c)) := PS.imp (ps_set xo.nd hi hx he hs hf) fun D σ H h => t_set hO h
def Rset (R : Nat → Addr) (i : Nat) (p : Addr) (j : Nat) : Addr := if j = i then p else R j
theorem sr_setO {B0 : Addr → Prop} {R : Nat → Addr} {pl pl1 : Pl} {m : Slots} {o o1 : Objs} {i : Nat} {p : Addr} {d : D} (sr : SR G O B0 R pl m o σ H) (st : Step G o o1 pl pl1 H H1) (hi : i ∈ O) (hp : H p = none) (np : ¬ Bv G O B0 R pl1 m o1 p) (ow : OwnRep G pl1 H1 (fun a => Bv G O B0 R pl1 m o1 a ∨ a = p) p d) (ob : OR G pl1 o1 H1 (fun a => Bv G O B0 R pl1 m o1 a ∨ a = p)) (hty : isDs d = decide (i + 10000 ∈ O)) :
    SR G O B0 (Rset R i p) pl1 (m.set i (some d)) o1 (σ.set i (some (.ref p))) H1 := by
  have hR : ∀ j, j ≠ i → (Rset R i p) j = R j := fun j z => if_neg z
  have hRi : (Rset R i p) i = p := if_pos rfl
  have sub : ∀ a, Bv G O B0 (Rset R i p) pl1 (m.set i (some d)) o1 a → Bv G O B0 R pl1 m o1 a ∨ a = p := fun a z => by
    rcases z with z | ⟨j, d', hj, hm, q⟩ | z
    · exact .inl (.inl z)
    · by_cases c : j = i
      · rw [c, hRi] at q; exact .inr q.symm
      · rw [hR j c] at q
        rw [set_other c] at hm
        exact .inl (.inr (.inl ⟨j, d', hj, hm, q⟩))
    · exact .inl (.inr (.inr z))
  have s1 := sr.step st (ob.sub fun a z => .inl z)
  have sub0 : ∀ a, H a ≠ none → Bv G O B0 (Rset R i p) pl1 (m.set i (some d)) o1 a → Bv G O B0 R pl m o a := fun a ha z => by
    rcases sub a z with z | z
    · exact Bv.step st ha z
    · rw [z] at ha; exact absurd hp ha
  refine ⟨by rw [List.length_set, List.length_set]; exact sr.len, s1.old, s1.bv, fun j d' hj hm => ?_, fun j k e e' hj hk hm hm' q => ?_, fun j d' hj hm => ?_, fun j d' hj hm => ?_, ob.sub sub, fun j d' hj hm => ?_⟩
  · by_cases c : j = i
    · rw [c, hRi]; exact ⟨fun z => np (.inl z), fun z => np (.inr (.inr z))⟩
    · rw [hR j c]; rw [set_other c] at hm; exact s1.br j d' hj hm
  · by_cases c : j = i
    · by_cases c' : k = i
      · rw [c, c']
      · rw [c, hRi, hR k c'] at q
        rw [set_other c'] at hm'
        exact absurd (.inr (.inl ⟨k, e', hk, hm', q.symm⟩)) np
    · by_cases c' : k = i
      · rw [c', hRi, hR j c] at q
        rw [set_other c] at hm
        exact absurd (.inr (.inl ⟨j, e, hj, hm, q⟩)) np
      · rw [hR j c, hR k c'] at q
        rw [set_other c] at hm
        rw [set_other c'] at hm'
        exact sr.rr j k e e' hj hk hm hm' q
  · have c : j ≠ i := fun z => hj (z ▸ hi)
    rw [set_other c] at hm ⊢
    obtain ⟨v, e1, r⟩ := sr.val j d' hj hm
    exact ⟨v, e1, r.step sr.obj st ob.n (fun a z => Bv.vol z) sub0⟩
  · by_cases c : j = i
    · subst c
      obtain ⟨e1, e2⟩ := set_some hm
      subst e1
      refine ⟨by rw [hRi]; exact List.getElem?_set_self (by rw [← sr.len]; exact e2), ?_⟩
      rw [hRi]
      cases d with
      | lst ds =>
        obtain ⟨vs, hh, rs⟩ := ow
        exact ⟨vs, hh, rs.sub sub⟩
      | dic t kd =>
        obtain ⟨u, ks, ws, ds, hh, oo, rs, q⟩ := ow
        exact ⟨u, ks, ws, ds, hh, oo, rs.sub sub, q⟩
      | _ => exact ow.elim
    · rw [hR j c]
      rw [set_other c] at hm ⊢
      obtain ⟨e1, r⟩ := sr.own j d' hj hm
      exact ⟨e1, r.step (sr.br j d' hj hm).2 sr.obj st ob.n (fun a z => Bv.vol z) sub0⟩
  · by_cases c : j = i
    · subst c
      obtain ⟨e1, _⟩ := set_some hm
      subst e1
      exact hty
    · rw [set_other c] at hm
      exact sr.ty j d' hj hm
theorem t_setG {D : Ends} {i : Nat} {g : WB.D → Bool} {b : Bool} (hg : ∀ d, g d = true → isL d = true ∧ isDs d = b) (hO : i ∈ O) (hb : decide (i + 10000 ∈ O) = b) (f : Fs G O σ H) (h : Post (evE Φ c f.m >>= fun d => if g d then pure (.next (f.m.set i (some d))) else M.fail) f.o (KS G O f D) (KXs G O W f)) : tAsg (TEv G O W Φ c sf true) (gName i) D σ H := by
  refine TEv.thenS f h fun v H1 f1 d t x h1 => ?_
  by_cases l : g d = true
  · rw [if_pos l] at h1
    obtain ⟨p, e1, e2, e3, e4, e5⟩ := x.fr rfl (hg d l).1
    subst e1
    have eB : f1.B = Bv G O f.B0 f.R f1.pl f.m f1.o := by
      show Bv G O f1.B0 f1.R f1.pl f1.m f1.o = _
      rw [t.b0, t.r, t.m]
    rw [eB] at e3 e4 e5
    have sr' := sr_setO f.sr t.st hO e2 e3 e4 e5 ((hg d l).2.trans hb.symm)
    refine (show KS G O f D (.next (f.m.set i (some d))) f1.o from h1) _ H1 ⟨f.B0, _, f1.pl, _, f1.o, sr'⟩ ⟨rfl, t.st.ext.mono fun _ z => .inr z, fun a ha z => ?_, t.st.agree, t.st.fresh, t.st.n⟩ rfl rfl
    rcases z with ⟨j, d', hj, hm, q⟩ | z
    · by_cases cj : j = i
      · have q' : p = a := by
          rw [cj] at q
          exact (show Rset f.R i p i = p from if_pos rfl).symm.trans q
        rw [← q'] at ha
        exact absurd e2 ha
      · have hm' : (f.m.set i (some d))[j]? = some (some d') := hm
        rw [set_other cj] at hm'
        have q' : Rset f.R i p j = a := q
        rw [show Rset f.R i p j = f.R j from if_neg cj] at q'
        exact .inl ⟨j, d', hj, hm', q'⟩
    · exact .inr (t.st.vol z ha)
  · rw [if_neg l] at h1; exact h1.elim
theorem t_setO {D : Ends} {i : Nat} (hO : i ∈ O) (hk : i + 10000 ∉ O) (h : TSv G O W Φ F (.setO i c) D σ H) : tAsg (TEv G O W Φ c sf true) (gName i) D σ H := by
  obtain ⟨f, h⟩ := h
  exact t_setG (g := isLs) (b := false) (fun d z => by cases d <;> first | exact ⟨rfl, rfl⟩ | cases z) hO (decide_eq_false hk) f h
theorem s_setO {x : PySem.Str} {px : Pos} (xo : XO G W X) (i : Nat) (he : PE X e (TEv G O W Φ c sf true)) (hO : i ∈ O := by decide) (hk : i + 10000 ∉ O := by decide) (hi : X.N[i]? = some x := by rfl) (hx : Loc X.env.scope x := by first | exact .inl rfl | exact .inr rfl) (hs : swapsWith e (some (.Name x px)) pos.line X.env = pure false := by rfl) (hf : X.fn x = true ∨ X.env.scope.names.lookup x = some .local := by first | exact .inl rfl | exact .inr rfl) :
    PS X (.Assign [.Name x px] e pos) (TSv G O W Φ F (.setO i c)) := PS.imp (ps_set xo.nd hi hx he hs hf) fun D σ H h => t_setO hO hk h
end
end WB
namespace WB
open PySem L2
section
variable {G : Glob} {O : List Nat} {W : WX} {Φ : Fns} {F : Nat} {X : Cx} {σ σ1 : L2.St} {H H1 : Hp} {pos : Pos} {e tg iter : Expr} {c : E} {sf fr : Bool}
theorem ext_upd {p : Addr} {vs ws : List V} (hp : H p = some (.lst vs)) : Ext (fun a => a = p) H (upd H p (.lst ws)) := by
  refine ⟨fun a u na h => ?_, fun a us h => ?_, fun a u w h => ?_, fun a q h => ?_, fun a h => ?_⟩
  · rw [upd_ne na]; exact h
  · rw [upd_ne (fun z => by rw [z, hp] at h; cases h)]; exact h
  · rw [upd_ne (fun z => by rw [z, hp] at h; cases h)]; exact h
  · rw [upd_ne (fun z => by unfold LamX.CodeO at h; rw [z, hp] at h; cases h)]; exact h
  · by_cases z : a = p
    · rw [z, upd_same] at h; cases h
    · rw [upd_ne z] at h; exact h
theorem sr_write {B0 : Addr → Prop} {R : Nat → Addr} {pl : Pl} {m : Slots} {o : Objs} {i : Nat} {d0 : D} {us vs : List V} {ds : List D} (sr : SR G O B0 R pl m o σ H) (hi : i ∈ O) (hm : m[i]? = some (some d0)) (hp : H (R i) = some (.lst us)) (r : Reps G pl H (Bv G O B0 R pl m o) vs ds) (hd0 : isDs d0 = false) :
    SR G O B0 R pl (m.set i (some (.lst ds))) o σ (upd H (R i) (.lst vs)) := by
  have il : i < m.length := (List.getElem?_eq_some_iff.mp hm).1
  have eB : Bv G O B0 R pl (m.set i (some (.lst ds))) o = Bv G O B0 R pl m o := by
    funext a
    refine propext ⟨fun z => ?_, fun z => ?_⟩
    · rcases z with z | ⟨j, d, hj, hmj, q⟩ | z
      · exact .inl z
      · by_cases cj : j = i
        · exact .inr (.inl ⟨i, d0, hi, hm, by rw [← cj]; exact q⟩)
        · rw [set_other cj] at hmj; exact .inr (.inl ⟨j, d, hj, hmj, q⟩)
      · exact .inr (.inr z)
    · rcases z with z | ⟨j, d, hj, hmj, q⟩ | z
      · exact .inl z
      · by_cases cj : j = i
        · exact .inr (.inl ⟨i, .lst ds, hi, List.getElem?_set_self il, by rw [← cj]; exact q⟩)
        · exact .inr (.inl ⟨j, d, hj, by rw [set_other cj]; exact hmj, q⟩)
      · exact .inr (.inr z)
  have ex := ext_upd (ws := vs) hp
  have inB : Bv G O B0 R pl m o (R i) := .inr (.inl ⟨i, d0, hi, hm, rfl⟩)
  have tb : ∀ a, a = R i → Bv G O B0 R pl m o a := fun a z => by rw [z]; exact inB
  have reps : ∀ {us : List V} {es : List D}, Reps G pl H (Bv G O B0 R pl m o) us es → Reps G pl (upd H (R i) (.lst vs)) (Bv G O B0 R pl m o) us es := fun x => reps_gen ex tb (fun _ _ z => z) x
  have back : ∀ j d, j ∈ O → (m.set i (some (.lst ds)))[j]? = some (some d) → ∃ d', m[j]? = some (some d') := fun j d hj h => by
    by_cases cj : j = i
    · rw [cj]; exact ⟨d0, hm⟩
    · rw [set_other cj] at h; exact ⟨d, h⟩
  refine ⟨by rw [List.length_set]; exact sr.len, fun a b z => sr.old a b (ex.dom a z), sr.bv, fun j d hj h => ?_, fun j k d d' hj hk h h' q => ?_, fun j d hj h => ?_, fun j d hj h => ?_, ?_, fun j d hj h => ?_⟩
  · obtain ⟨d', q⟩ := back j d hj h
    exact sr.br j d' hj q
  · obtain ⟨d1, q1⟩ := back j d hj h
    obtain ⟨d2, q2⟩ := back k d' hk h'
    exact sr.rr j k d1 d2 hj hk q1 q2 q
  · have cj : j ≠ i := fun z => hj (z ▸ hi)
    rw [set_other cj] at h
    obtain ⟨v, e1, rv⟩ := sr.val j d hj h
    rw [eB]
    refine ⟨v, e1, ?_⟩
    cases reps (.cons rv .nil) with
    | cons r' _ => exact r'
  · rw [eB]
    by_cases cj : j = i
    · subst cj
      obtain ⟨e1, _⟩ := set_some h
      subst e1
      exact ⟨(sr.own j d0 hj hm).1, vs, upd_same, reps r⟩
    · rw [set_other cj] at h
      obtain ⟨e1, rv⟩ := sr.own j d hj h
      refine ⟨e1, ?_⟩
      cases d with
      | lst es =>
        obtain ⟨ws, hw, rw'⟩ := rv
        exact ⟨ws, ex.keep _ _ (fun z => cj (sr.rr j i _ d0 hj hi h hm z)) hw, reps rw'⟩
      | dic t kd =>
        obtain ⟨u, ks, ws, es, hw, oo, rw', q⟩ := rv
        exact ⟨u, ks, ws, es, ex.keep _ _ (fun z => cj (sr.rr j i _ d0 hj hi h hm z)) hw, oo, reps rw', q⟩
      | _ => exact rv.elim
  · rw [eB]
    exact or_gen sr.obj ex (fun a z => by rw [z]; exact (sr.br i d0 hi hm).2) tb fun _ _ z => z
  · by_cases cj : j = i
    · subst cj
      obtain ⟨e1, _⟩ := set_some h
      subst e1
      have := sr.ty j d0 hj hm
      rw [hd0] at this
      exact this
    · rw [set_other cj] at h
      exact sr.ty j d hj h
def Fs.write (f : Fs G O σ H) {i : Nat} {d0 : D} {us vs : List V} {ds : List D} (hi : i ∈ O) (hm : f.m[i]? = some (some d0)) (hp : H (f.R i) = some (.lst us)) (r : Reps G f.pl H f.B vs ds) (hd0 : isDs d0 = false) : Fs G O σ (upd H (f.R i) (.lst vs)) := ⟨f.B0, f.R, f.pl, f.m.set i (some (.lst ds)), f.o, sr_write f.sr hi hm hp r hd0⟩
theorem Fs.write_go (f : Fs G O σ H) {i : Nat} {d0 : D} {us vs : List V} {ds : List D} (hi : i ∈ O) (hm : f.m[i]? = some (some d0)) (hp : H (f.R i) = some (.lst us)) (r : Reps G f.pl H f.B vs ds) (hd0 : isDs d0 = false) : f.Go (f.write hi hm hp r hd0) where
  b0 := rfl
  ext := (ext_upd hp).mono fun a z => .inl ⟨i, d0, hi, hm, z.symm⟩
  new := fun a h z => by
    rcases z with ⟨j, d, hj, hmj, q⟩ | z
    · have hmj' : (f.m.set i (some (.lst ds)))[j]? = some (some d) := hmj
      by_cases cj : j = i
      · exact .inl ⟨i, d0, hi, hm, by rw [← cj]; exact q⟩
      · rw [set_other cj] at hmj'; exact .inl ⟨j, d, hj, hmj', q⟩
    · exact .inr z
  agree := fun k l => ⟨rfl, l⟩
  fresh := fun k l n => absurd l n
  n := Nat.le_refl _
theorem own_lst (f : Fs G O σ H) {i : Nat} {d : D} (hi : i ∈ O) (hk : i + 10000 ∉ O) (hm : f.m[i]? = some (some d)) : ∃ ds us, d = .lst ds ∧ σ[i]? = some (some (.ref (f.R i))) ∧ H (f.R i) = some (.lst us) ∧ Reps G f.pl H f.B us ds := by
  obtain ⟨ev, r⟩ := f.sr.own i d hi hm
  cases d with
  | lst ds =>
    obtain ⟨us, h, rs⟩ := r
    exact ⟨ds, us, rfl, ev, h, rs⟩
  | dic t kd =>
    have := f.sr.ty i _ hi hm
    rw [decide_eq_false hk] at this
    cases this
  | _ => exact r.elim
theorem post_slot {α : Type} {m : Slots} {i : Nat} {k : D → M α} {o : Objs} {P : α → Objs → Prop} {E : Nat → Objs → Prop} (h : Post (slotM m i >>= k) o P E) : ∃ d, m[i]? = some (some d) ∧ Post (k d) o P E := by
  unfold slotM at h
  split at h
  · rename_i d e
    exact ⟨d, e, h⟩
  · exact h.elim
theorem s_app {x : PySem.Str} {px ap cp : Pos} (xo : XO G W X) (i : Nat) (he : PE X e (TEv G O W Φ c true fr)) (hO : i ∈ O := by decide) (hk : i + 10000 ∉ O := by decide) (hN : X.N[i]? = some x := by rfl) (hv : Vis X.env.scope x := by first | exact .inl rfl | exact .inr (.inl rfl) | exact .inr (.inr rfl)) (hd : (x == ("__debug__" : PySem.Str)) = false := by decide) (hcd : (x == ("__classdict__" : PySem.Str)) = false := by decide)
    (hst : starEach [e] X.env = (false, eval e X.env) :: starEach [] X.env := by rfl) (hfew : ((backTo cp (starEach [e] X.env)).all (fun x => !x.1) && (backToKw cp (keywordEach [] X.env)).all (fun x => x.1.isSome) && decide ([e].length + ([] : List Keyword).length + (if ([] : List Keyword).isEmpty then 0 else 1) < 30)) = true := by rfl) (hline : (ap.endLine == cp.line) = true := by rfl) :
    PS X (.Expr (.Call (.Attribute (.Name x px) "append" ap) [e] [] cp) pos) (TSv G O W Φ F (.app i c)) :=
  PS.imp (ps_expr (pe_bm PySem.F.plainAttrs_list PySem.F.slot_list_append PySem.F.type_list_append mt_append (pe_var hN hv hd hcd) (pa_cons he pa_nil hst) rfl hfew hline hst rfl) rfl) fun D σ H ⟨f, h⟩ => by
    obtain ⟨d, hm, h1⟩ := post_slot h
    obtain ⟨ds, us, rfl, ev, hp, rs⟩ := own_lst f hO hk hm
    refine ⟨_, ev, .inl ⟨rfl, us, .of hp⟩, ?_⟩
    refine TEv.thenS f h1 fun v H1 f1 d1 t xv h2 => ?_
    have hm1 : f1.m[i]? = some (some (.lst ds)) := by rw [t.m]; exact hm
    obtain ⟨ds1, us1, e1, _, hp1, rs1⟩ := own_lst f1 hO hk hm1
    cases e1
    unfold appM at h2
    dsimp only at h2
    by_cases cl : ds.length < sz
    · rw [if_pos cl] at h2
      have rr : Reps G f1.pl H1 f1.B (us1 ++ [v]) (ds ++ [d1]) := rs1.append (.cons (xv.sf rfl) .nil)
      rw [← t.r]
      refine ⟨_, us1, v, rfl, rfl, hp1, by rw [rs1.length, ← sz_line]; exact cl, ?_⟩
      refine (show KS G O f D (.next (f.m.set i (some (.lst (ds ++ [d1]))))) f1.o from h2) σ _ (f1.write hO hm1 hp1 rr rfl) (t.go.trans (f1.write_go hO hm1 hp1 rr rfl)) rfl ?_
      show f1.m.set i _ = _
      rw [t.m]
    · rw [if_neg cl] at h2; exact h2.elim
theorem s_ext {x : PySem.Str} {px ap cp : Pos} (xo : XO G W X) (i : Nat) (he : PE X e (TEv G O W Φ c sf fr)) (hO : i ∈ O := by decide) (hk : i + 10000 ∉ O := by decide) (hN : X.N[i]? = some x := by rfl) (hv : Vis X.env.scope x := by first | exact .inl rfl | exact .inr (.inl rfl) | exact .inr (.inr rfl)) (hd : (x == ("__debug__" : PySem.Str)) = false := by decide) (hcd : (x == ("__classdict__" : PySem.Str)) = false := by decide)
    (hst : starEach [e] X.env = (false, eval e X.env) :: starEach [] X.env := by rfl) (hfew : ((backTo cp (starEach [e] X.env)).all (fun x => !x.1) && (backToKw cp (keywordEach [] X.env)).all (fun x => x.1.isSome) && decide ([e].length + ([] : List Keyword).length + (if ([] : List Keyword).isEmpty then 0 else 1) < 30)) = true := by rfl) (hline : (ap.endLine == cp.line) = true := by rfl) :
    PS X (.Expr (.Call (.Attribute (.Name x px) "extend" ap) [e] [] cp) pos) (TSv G O W Φ F (.ext i c)) :=
  PS.imp (ps_expr (pe_bm PySem.F.plainAttrs_list PySem.F.slot_list_extend PySem.F.type_list_extend mt_extend (pe_var hN hv hd hcd) (pa_cons he pa_nil hst) rfl hfew hline hst rfl) rfl) fun D σ H ⟨f, h⟩ => by
    obtain ⟨d, hm, h1⟩ := post_slot h
    obtain ⟨ds, us, rfl, ev, hp, rs⟩ := own_lst f hO hk hm
    refine ⟨_, ev, .inl ⟨rfl, us, .of hp⟩, ?_⟩
    refine TEv.thenS f h1 fun v H1 f1 d1 t xv h2 => ?_
    have hm1 : f1.m[i]? = some (some (.lst ds)) := by rw [t.m]; exact hm
    obtain ⟨ds1, us1, e1, _, hp1, rs1⟩ := own_lst f1 hO hk hm1
    cases e1
    unfold extM at h2
    cases d1 with
    | lst es =>
      dsimp only at h2
      by_cases cl : ds.length + es.length ≤ sz
      · rw [if_pos cl] at h2
        obtain ⟨b, ws, rfl, hb, rw'⟩ := xv.rt.lst
        have rr : Reps G f1.pl H1 f1.B (us1 ++ ws) (ds ++ es) := rs1.append rw'
        rw [← t.r]
        refine ⟨_, b, us1, ws, rfl, rfl, hp1, hb, by rw [rs1.length, rw'.length, ← sz_line]; exact cl, ?_⟩
        refine (show KS G O f D (.next (f.m.set i (some (.lst (ds ++ es))))) f1.o from h2) σ _ (f1.write hO hm1 hp1 rr rfl) (t.go.trans (f1.write_go hO hm1 hp1 rr rfl)) rfl ?_
        show f1.m.set i _ = _
        rw [t.m]
      · rw [if_neg cl] at h2; exact h2.elim
    | _ => exact h2.elim
theorem TIv.thenS {α : Type} {k : List D → M α} (f : Fs G O σ H) {P : α → Objs → Prop} {R : It → Hp → Prop} (h : Post (evI Φ c f.m >>= k) f.o P (KXs G O W f))
    (q : ∀ J H1 (f1 : Fs G O σ H1) ds, f.To f1 → ItOk J ds f1 (if sf = true then f1.B else Vol G f1.o f1.pl) → Post (k ds) f1.o P (KXs G O W f) → R J H1) : TIv G O W Φ c sf σ H R := by
  refine ⟨f, Post.mono (Post.bind.mp h) (fun d o' hd J H1 f1 t e x => ?_) fun _ _ z => z.kx⟩
  subst e
  exact q J H1 f1 d t x hd
theorem s_for {t : Tg} {body : List Stmt} {cb : List S} (xo : XO G W X) (hp : PassesOwn (model X.prog X.w) X.A X.env X.xe) (hi : PI X tg iter (TIv G O W Φ c true)) (hg : PG X tg (TGv G O t)) (hb : PSs X body (TLv G O W Φ F cb)) (hs : ∀ x, foldedSetIterable iter X.env x = pure x := by intro _; rfl) :
    PS X (.For tg iter body [] pos) (TSv G O W Φ F (.forS t c cb)) :=
  PS.imp (ps_for hp xo.calm hi hg hb hs) fun D σ H ⟨f, h⟩ => by
    have h' : Post (evI Φ c f.m >>= fun xs => forL (fun x m => bindD t x m >>= fun m' => exL Φ F cb m') xs f.m) f.o (KS G O f D) (KXs G O W f) := h
    refine TIv.thenS f h' fun J H1 f1 ds tt ok h1 => ?_
    refine ⟨fun i m σ' H' => m = ds.length - i ∧ i ≤ ds.length ∧ ∃ f' : Fs G O σ' H', f1.Go f' ∧ Post (forL (fun x m => bindD t x m >>= fun m' => exL Φ F cb m') (ds.drop i) f'.m) f'.o (KS G O f D) (KXs G O W f), ⟨ds.length, by omega, Nat.zero_le _, f1, .refl f1, by rw [tt.m]; exact h1⟩, ?_⟩
    rintro i m σ' H' ⟨em, il, f', go, hp'⟩
    obtain ⟨okI, okS⟩ := ok f'.pl H' f'.B go.tr
    by_cases lt : i < ds.length
    · refine .inr ?_
      have ex : ds[i]? = some ds[i] := List.getElem?_eq_getElem lt
      obtain ⟨g1, g2⟩ := okI i _ ex
      refine ⟨g1, fun σ2 H2 => _, fun σ2 H2 z => ⟨ds.length - (i + 1), by omega, z⟩, fun x H2 y => ?_⟩
      obtain ⟨al, rx⟩ := g2 x H2 y
      rw [List.drop_eq_getElem_cons lt] at hp'
      have hp2 : Post ((bindD t ds[i] f'.m >>= fun m' => exL Φ F cb m') >>= fun fl => (match fl with
          | .next m' => forL (fun x m => bindD t x m >>= fun m' => exL Φ F cb m') (ds.drop (i + 1)) m'
          | .cont m' => forL (fun x m => bindD t x m >>= fun m' => exL Φ F cb m') (ds.drop (i + 1)) m'
          | .brk m' => pure (.next m')
          | .ret d => pure (.ret d))) f'.o (KS G O f D) (KXs G O W f) := hp'
      rw [bnd_assoc] at hp2
      obtain ⟨m', eb, kb⟩ := (cm_bind t ds[i] f'.m).post (Post.bind.mp hp2)
      have gA := (f'.al_to al).go
      refine ⟨f'.al al, ds[i], m', rx, eb, fun σ2 f3 g3 e1 e2 e3 e4 e5 e6 e7 e8 => ?_⟩
      have gg := go.trans (gA.trans g3)
      refine ⟨f3, ?_⟩
      rw [e1, e2]
      refine (Post.bind.mp kb).mono (fun fl o' z => ?_) fun k o' z => z.to (tt.go.trans gg)
      cases fl with
      | next m2 =>
        intro σ4 H4 f4 g4 q1 q2
        subst q1 q2
        exact ⟨rfl, by omega, f4, gg.trans g4, z⟩
      | cont m2 =>
        intro σ4 H4 f4 g4 q1 q2
        subst q1 q2
        exact ⟨rfl, by omega, f4, gg.trans g4, z⟩
      | brk m2 =>
        intro σ4 H4 f4 g4 q1 q2
        exact (show KS G O f D (.next m2) o' from z) σ4 H4 f4 (tt.go.trans (gg.trans g4)) q1 q2
      | ret d =>
        intro v σ4 H4 f4 g4 q1 q2
        exact (show KS G O f D (.ret d) o' from z) v σ4 H4 f4 (tt.go.trans (gg.trans g4)) q1 q2
    · refine .inl ?_
      have ei : i = ds.length := by omega
      subst ei
      rw [List.drop_length] at hp'
      exact ⟨okS, (show KS G O f D (.next f'.m) f'.o from hp') σ' H' f' (tt.go.trans go) rfl rfl⟩
theorem TTv.thenE {α : Type} {k : Bool → M α} (f : Fs G O σ H) {P : α → Objs → Prop} {E0 : Nat → Objs → Prop} {Q : Bool → Hp → Prop} (h : Post ((evE Φ c f.m >>= WB.D.asB) >>= k) f.o P E0) (hE : ∀ k o', E0 k o' → KX G O W f k o')
    (q : ∀ H1 (f1 : Fs G O σ H1) b, f.To f1 → Post (k b) f1.o P E0 → Q b H1) : TTv G O W Φ c σ H Q := by
  refine ⟨f, Post.mono (Post.bind.mp h) (fun d o' hd H1 f1 t e => ?_) hE⟩
  subst e
  exact q H1 f1 d t hd
end
end WB
namespace WB
open PySem PySem.Spec PyProof.Rows L2
section
variable {G : Glob} {O : List Nat} {W : WX} {Φ : Fns} {F : Nat} {X : Cx} {σ σ1 : L2.St} {H H1 : Hp} {pos : Pos} {e o : Expr} {es : List Expr} {c co : E} {cs : List E} {sf fr : Bool}
theorem t_mth {f : MF} {b s so fo : Bool} {T : String} {K : PySem.W.Frag} {Q : VK} (hT : T = if b then "str" else "list") (h : TEv G O W Φ (.mth f b co cs) true true σ H Q) : tBM K T (rM G f T) (TEv G O W Φ co so fo) (TAv G O W Φ cs s) σ H Q := by
  obtain ⟨f0, h⟩ := h
  refine TEv.then f0 h fun v H1 f1 d t x h1 => ?_
  by_cases cb : tyB b d = true
  · rw [if_pos cb] at h1
    have tv : tyV K T v H1 ∧ tyD T d = true := by
      subst hT
      cases b with
      | true =>
        cases d with
        | str s => rw [x.rt.str]; exact ⟨rfl, rfl⟩
        | _ => cases cb
      | false =>
        cases d with
        | lst ds =>
          obtain ⟨a, vs, e1, hq, _⟩ := x.rt.lst
          rw [e1]
          exact ⟨.inl ⟨rfl, vs, .of hq⟩, rfl⟩
        | _ => cases cb
    refine ⟨tv.1, ?_⟩
    rw [← t.m] at h1
    refine TAv.then f1 h1 fun vs H2 f2 ds t2 x2 h2 => ?_
    obtain ⟨z, e1, k⟩ := (cm_mth f d ds).post h2
    exact ⟨f2.pl, f2.o, f2.B, d, ds, fun a => f2.sr.some, t2.rt x.rt, x2.rt, tv.2, by rw [e1]; exact k.out (t.trans t2)⟩
  · rw [if_neg cb] at h1; exact h1.elim
theorem e_mth {f : MF} {s so fo : Bool} {T id : String} {name : PySem.Str} {ap : Pos} (b : Bool) (hT : T = if b then "str" else "list") (pa : PlainAttrs T) (slot : Slot T name id) (hty : typeOf (.builtin id) = pure (.type "method_descriptor")) (hm : MtR X id (rM G f T)) (ho : PE X o (TEv G O W Φ co so fo)) (ha : PA X (e :: es) (TAv G O W Φ cs s))
    (hbase : attributeBase o name X.env (eval o X.env) = eval o X.env := by rfl)
    (hfew : ((backTo pos (starEach (e :: es) X.env)).all (fun x => !x.1) && (backToKw pos (keywordEach [] X.env)).all (fun x => x.1.isSome) && decide ((e :: es).length + ([] : List Keyword).length + (if ([] : List Keyword).isEmpty then 0 else 1) < 30)) = true := by rfl)
    (hline : (ap.endLine == pos.line) = true := by rfl) (hs : starEach (e :: es) X.env = (false, eval e X.env) :: starEach es X.env := by rfl) (hpl : (backTo pos (starEach es X.env)).any (·.1) = false := by rfl) :
    PE X (.Call (.Attribute o name ap) (e :: es) [] pos) (TEv G O W Φ (.mth f b co cs) true true) :=
  PE.imp (pe_bm pa slot hty hm ho ha hbase hfew hline hs hpl) fun _ _ _ h => t_mth hT h
structure Ec (G : Glob) (K : PySem.W.Frag) (mg : PySem.Str → Option Value) (k : Nat) (x : PySem.Str) : Prop where
  g : mg x = some (.ref (G.clsA k))
  q : PySem.W.excIn K (G.clsA k) He.veBase "ValueError.__new__" = true
  kp : PySem.W.keepIn K (.ref (G.clsA k)) = true
  b : PySem.W.subIn K (.ref (G.clsA k)) (.type "BaseException") = some true
  t : PySem.W.typeIn K (.ref (G.clsA k)) = some (.type "type")
theorem s_raise {x m : PySem.Str} {j : Nat} {p p2 p3 : Pos} (xo : XO G W X) (k : Nat) (E : Ec G X.K X.mg k x) (hg : Gl X x := by rfl) (hdb : (x == ("__debug__" : PySem.Str)) = false := by decide) : PS X (.Raise (some (.Call (.Name x p) [.Constant (.str m) j p2] [] p3)) none pos) (TSv G O W Φ F (.raise k)) :=
  PS.imp (ps_raise xo.calm xo.tk (pmk_own PySem.F.excBase_ValueError E.q E.g E.kp (raises_own E.b E.t) hg hdb)) fun D σ H ⟨f, h⟩ => (show KXs G O W f k f.o from h) σ H f (.refl f) rfl
theorem TAv.thenS {α : Type} {k : List D → M α} (f : Fs G O σ H) {P : α → Objs → Prop} {Q : List V → Hp → Prop} (h : Post (evA Φ cs f.m >>= k) f.o P (KXs G O W f))
    (q : ∀ vs H1 (f1 : Fs G O σ H1) ds, f.To f1 → Vals' G O f1 sf vs ds → ds.length = cs.length → Post (k ds) f1.o P (KXs G O W f1) → Q vs H1) : TAv G O W Φ cs sf σ H Q := by
  refine ⟨f, Post.mono (evA_len cs f.m (Post.bind.mp h)) (fun d o' hd v H1 f1 t e x => ?_) fun _ _ z => z.kx⟩
  subst e
  exact q v H1 f1 d t x hd.1 (Post.mono hd.2 (fun _ _ z => z) fun _ _ z => z.to t.go)
theorem s_par2 {x y : PySem.Str} {a b : Expr} {ca cb : E} {px py pt pt2 : Pos} {kt k2 : Nat} (xo : XO G W X) (i j : Nat) (ha : PA X [a, b] (TAv G O W Φ [ca, cb] true)) (hw : swappedStores [.Tuple [.Name x px, .Name y py] kt pt] (.Tuple [a, b] k2 pt2) X.env = pure (some [x, y]) := by rfl) (hij : i ≠ j := by decide) (hOi : i ∉ O := by decide) (hOj : j ∉ O := by decide) (hi : X.N[i]? = some x := by rfl) (hj : X.N[j]? = some y := by rfl)
    (hx : X.env.scope.names.lookup x = some .local := by rfl) (hy : X.env.scope.names.lookup y = some .local := by rfl) (hs : swapsWithSole [.Tuple [.Name x px, .Name y py] kt pt] (.Tuple [a, b] k2 pt2) pos.line X.env = pure false := by rfl) :
    PS X (.Assign [.Tuple [.Name x px, .Name y py] kt pt] (.Tuple [a, b] k2 pt2) pos) (TSv G O W Φ F (.par [i, j] [ca, cb])) :=
  PS.imp (ps_par xo.calm xo.nd hi hj hij hx hy ha hw hs) fun D σ H ⟨f, h⟩ => by
    refine TAv.thenS f h fun vs H1 f1 ds t xv l h1 => ?_
    match ds, l with
    | [d1, d2], _ =>
      cases xv.sf rfl with
      | cons r1 rr =>
        cases rr with
        | cons r2 rr =>
          cases rr
          rename_i v2
          refine ⟨_, _, rfl, ?_⟩
          have r2' : Rep G (f1.set hOi r1).pl H1 (f1.set hOi r1).B v2 d2 := by rw [Fs.set_b]; exact r2
          refine (show KS G O f D (.next ((f.m.set i (some d1)).set j (some d2))) f1.o from h1) _ H1 ((f1.set hOi r1).set hOj r2') (t.go.trans ((f1.set_go hOi r1).trans ((f1.set hOi r1).set_go hOj r2'))) rfl ?_
          show (f1.m.set i _).set j _ = _
          rw [t.m]
section
variable {tg iter : Expr} {ifs : List Expr} {scope : Scope} {py spos : Pos} {y : PySem.Str} {t : Tg} {it ce : E} {cnd : Option E} {fe : Bool}
theorem s_setC (xo : XO G W X) (i : Nat) (own : List (PySem.Str × Nat)) (ok : blkC X.N X.env.scope scope own = true) (hi : PI X tg iter (TIv G O W Φ it sf))
    (hg : ∀ (s : Shared) (H : Hp) (C : Addr) (cl : List (PySem.Str × Addr)) (fp : List Addr), PG (X.blk s H scope (compEnvC scope cl C X.env) fp) tg (TGv G O t))
    (ht : ∀ (s : Shared) (H : Hp) (C : Addr) (cl : List (PySem.Str × Addr)) (fp : List Addr), PTs (X.blk s H scope (compEnvC scope cl C X.env) fp) ifs (TCv G O W0 Φ cnd))
    (he : ∀ (s : Shared) (H : Hp) (C : Addr) (cl : List (PySem.Str × Addr)) (fp : List Addr), PE (X.blk s H scope (compEnvC scope cl C X.env) fp) e (TEv G O W0 Φ ce true fe))
    (hOi : i ∉ O := by decide) (hy : X.N[i]? = some y := by rfl) (hyl : X.env.scope.names.lookup y = some .local := by rfl) (hsw : swapsWith (.ListComp e [⟨tg, iter, ifs, 0⟩] scope pos) (some (.Name y py)) spos.line X.env = pure true := by exact sw_true rfl rfl rfl rfl)
    (hO : ∀ i ∈ own.map (·.2), i ∉ O := by decide) (hts : ∀ i ∈ t.slots, i ∈ own.map (·.2) := by decide) (hs : ∀ x, foldedSetIterable iter X.env x = pure x := by intro _; rfl) :
    PS X (.Assign [.Name y py] (.ListComp e [⟨tg, iter, ifs, 0⟩] scope pos) spos) (TSv G O W Φ F (.set i (.comp t it cnd ce (own.map (·.2))))) :=
  PS.imp (ps_setLc xo.calm xo.nd hy hyl hsw hi (blkOk_by ok) hg ht he hs) fun D σ H h => t_comp (W := W) hO hts ((show TEv G O W Φ (.comp t it cnd ce (own.map (·.2))) true true σ H _ from t_set hOi h))
end
end
section
variable {P : Program} {w : World} {K : PySem.W.Frag} {mg : PySem.Str → Option Value} {base : Heap} {x qual : PySem.Str} {params : Arguments} {body : List Stmt} {scope : Scope} {kws : List (PySem.Str × V)} {f : Addr} {fd : FuncData} {G : Glob} {Φ : Fns}
abbrev WD (E : XK) : WX := fun cls d _ H => E cls d H
theorem t_body {N ps : List PySem.Str} {vs : List V} {H : Hp} {Q : VK} {E : XK} (hpl : ps.length ≤ N.length) (O : List Nat) (F : Nat) (code : List WB.S) (hO : ∀ i ∈ O, ps.length ≤ i) (h : spD G ps.length (denM Φ F ps.length N.length code) vs H Q E) : TLv G O (WD E) Φ F code { nx := fun _ H' => Q .non H', rt := Q } (L2.start N vs) H := by
  obtain ⟨hl, B0, pl, o, ds, h1, h2, h3, h4, h5⟩ := h
  have ld : ds.length = ps.length := by rw [← h4.length, hl]
  unfold denM at h5
  rw [if_pos ld] at h5
  have get : ∀ {i : Nat} {d : D}, (ds.map some ++ List.replicate (N.length - ps.length) none)[i]? = some (some d) → ds[i]? = some d := fun {i d} q => by
    by_cases c : i < ds.length
    · rw [List.getElem?_append_left (by rw [List.length_map]; exact c), List.getElem?_map] at q
      cases z : ds[i]? with
      | none => rw [z] at q; cases q
      | some y => rw [z] at q; cases q; rfl
    · rw [List.getElem?_append_right (by rw [List.length_map]; omega)] at q
      have := List.mem_of_getElem? q
      rw [List.mem_replicate] at this
      cases this.2
  have noO : ∀ i d, i ∈ O → (ds.map some ++ List.replicate (N.length - ps.length) none)[i]? = some (some d) → False := fun i d hi q => by
    have := (List.getElem?_eq_some_iff.mp (get q)).1
    have := hO i hi
    omega
  have eB : Bv G O B0 (fun _ => 0) pl (ds.map some ++ List.replicate (N.length - ps.length) none) o = Bx G B0 pl o := by
    funext a
    refine propext ⟨fun z => ?_, fun z => ?_⟩
    · rcases z with z | ⟨i, d, hi, hm, _⟩ | z
      · exact .inl z
      · exact (noO i d hi hm).elim
      · exact .inr z
    · exact z.elim .inl fun q => .inr (.inr q)
  have sr : SR G O B0 (fun _ => 0) pl (ds.map some ++ List.replicate (N.length - ps.length) none) o (L2.start N vs) H := by
    refine ⟨?_, h1, h2, fun i d hi hm => (noO i d hi hm).elim, fun i j d d' hi hj hm => (noO i d hi hm).elim, fun i d hi hm => ?_, fun i d hi hm => (noO i d hi hm).elim, by rw [eB]; exact h3, fun i d hi hm => (noO i d hi hm).elim⟩
    · unfold L2.start
      rw [List.length_append, List.length_append, List.length_map, List.length_map, List.length_replicate, List.length_replicate, h4.length, ld]
    · rw [eB]
      have q := get hm
      obtain ⟨v, ev, rv⟩ := h4.get q
      refine ⟨v, ?_, rv⟩
      unfold L2.start
      rw [List.getElem?_append_left (by rw [List.length_map]; exact (List.getElem?_eq_some_iff.mp ev).1), List.getElem?_map, ev]
      rfl
  let f0 : Fs G O (L2.start N vs) H := ⟨B0, fun _ => 0, pl, _, o, sr⟩
  have fin : ∀ {σ' : L2.St} {H' : Hp} (f' : Fs G O σ' H'), f0.Go f' → Step G o f'.o pl f'.pl H H' ∧ OR G f'.pl f'.o H' (Bx G B0 f'.pl f'.o) := fun {σ' H'} f' g => by
    refine ⟨⟨g.ext.mono fun a z => ?_, g.agree, g.fresh, g.n⟩, ?_⟩
    · rcases z with ⟨i, d, hi, hm, _⟩ | z
      · exact (noO i d hi hm).elim
      · exact z
    · have := f'.sr.obj.sub (bx_sub f')
      rw [g.b0] at this
      exact this
  refine ⟨f0, (Post.bind.mp h5).mono (fun fl o' z => ?_) fun k' o' z => ?_⟩
  · cases fl with
    | next m' =>
      intro σ' H' f' g e1 e2
      subst e1
      obtain ⟨a, b⟩ := fin f' g
      exact (show ∀ v H' pl', Step G o _ pl pl' H H' → _ → _ → Q v H' from z) _ H' f'.pl a b .non
    | brk m' => exact z.elim
    | cont m' => exact z.elim
    | ret d =>
      intro v σ' H' f' g e1 r
      subst e1
      obtain ⟨a, b⟩ := fin f' g
      rw [g.b0] at r
      exact (show ∀ v H' pl', Step G o _ pl pl' H H' → _ → _ → Q v H' from z) v H' f'.pl a b r
  · intro σ' H' f' g e1
    subst e1
    obtain ⟨a, b⟩ := fin f' g
    exact z H' f'.pl a b
theorem f_def {N ps : List PySem.Str} {k : Nat} (Fd : FunD K x qual params body scope [] kws f fd) (S : FnScope N ps scope) (O : List Nat) (F : Nat) (code : List WB.S) (hO : ∀ i ∈ O, ps.length ≤ i)
    (hb : ∀ (cdv : Value) (A : Around) (outer : List Env) (s : Shared) (H : Hp) (E : XK), fd.code = cdv → Room k (A.deeper (envOfC qual scope s.heap.objs.size f cdv)) → PSs (cxOf (L2.CX P w) P w K mg base N qual scope f cdv A outer s H E) body (TLv G O (WD E) Φ F code)) :
    FnOk P w K mg base (L2.CX P w) (k + 1) f fd ps (spD G ps.length (denM Φ F ps.length N.length code)) := by
  have hpl : ps.length ≤ N.length := by have := congrArg List.length S.pre; rw [List.length_take] at this; omega
  obtain ⟨oc, od, dV, kV, doc, pm, an, cdv, ct, osl, rfl, lk, hcd, _, _⟩ := Fd.ex
  exact fn_of lk hcd S (fun vs H Q E h => h.1) fun A outer s H vs Q E hr h => ⟨_, hb cdv A outer s H E rfl hr, t_body hpl O F code hO h⟩
end
end WB
namespace WB
open PySem PySem.Spec PyProof.Rows L2
structure Fk (G : Glob) (P : Program) (w : World) (K : PySem.W.Frag) (mg : PySem.Str → Option Value) (base : Heap) (lv : Nat) (x : PySem.Str) (n : Nat) (den : List D → M D) : Prop where
  ex : ∃ (fa : Addr) (fd : FuncData) (ps : List PySem.Str), FnOk P w K mg base (L2.CX P w) lv fa fd ps (spD G n den) ∧ mg x = some (.ref fa) ∧ PySem.W.keepIn K (.ref fa) = true ∧ Binds K fd ps []
section
variable {G : Glob} {P : Program} {w : World} {K : PySem.W.Frag} {mg : PySem.Str → Option Value} {base : Heap} {lv k n : Nat} {x : PySem.Str} {den : List D → M D} {A : Around}
theorem Fk.at (F : Fk G P w K mg base lv x n den) (hr : Room k A) (h : lv ≤ k := by decide) : Fc G P w K mg base A x n den := by
  obtain ⟨fa, fd, ps, a, b, c, d⟩ := F.ex
  exact ⟨lv, fa, fd, ps, a, hr.mono h, b, c, d⟩
def FnP (K : PySem.W.Frag) (mg : PySem.Str → Option Value) (x : PySem.Str) (st : Stmt) : Prop := ∃ f fd, mg x = some (.ref f) ∧ FunD K x x (defArgs st) (defBody st) (defScope st) [] [] f fd
theorem k_def {st : Stmt} {N ps : List PySem.Str} {Φ : Fns} (T : FnP K mg x st) (S : FnScope N ps (defScope st)) (O : List Nat) (F : Nat) (code : List WB.S)
    (hbd : ∀ {f : Addr} {fd : FuncData}, FunD K x x (defArgs st) (defBody st) (defScope st) [] [] f fd → Binds K fd ps [])
    (hb : ∀ (f : Addr) (cdv : Value) (A : Around) (outer : List Env) (s : Shared) (H : Hp) (E : XK), Room k (A.deeper (envOfC x (defScope st) s.heap.objs.size f cdv)) → XO G (WD E) (cxOf (L2.CX P w) P w K mg base N x (defScope st) f cdv A outer s H E) → PSs (cxOf (L2.CX P w) P w K mg base N x (defScope st) f cdv A outer s H E) (defBody st) (TLv G O (WD E) Φ F code))
    (hK : K = G.K ∧ P = G.P ∧ w = G.w) (hO : ∀ i ∈ O, ps.length ≤ i := by decide) : Fk G P w K mg base (k + 1) x ps.length (denM Φ F ps.length N.length code) := by
  obtain ⟨f, fd, hm, Fd⟩ := T
  exact ⟨f, fd, ps, f_def Fd S O F code hO fun cdv A outer s H E _ hr => hb f cdv A outer s H E hr ⟨hK.1, rfl, S.nd, hr.units, takes_of rfl rfl rfl rfl, hK.2⟩, hm, Fd.kp, hbd Fd⟩
theorem Fk.up (F : Fk G P w K mg base lv x n den) (k : Nat) (h : lv ≤ k := by decide) : Fk G P w K mg base k x n den := by
  obtain ⟨fa, fd, ps, a, b⟩ := F.ex
  exact ⟨fa, fd, ps, a.mono h, b⟩
theorem hp_of {N : List PySem.Str} {qual : PySem.Str} {scope : Scope} {f : Addr} {cdv : Value} {outer : List Env} {s : Shared} {H : Hp} {E : XK} : PassesOwn (model P w) (cxOf (L2.CX P w) P w K mg base N qual scope f cdv A outer s H E).A (cxOf (L2.CX P w) P w K mg base N qual scope f cdv A outer s H E).env (cxOf (L2.CX P w) P w K mg base N qual scope f cdv A outer s H E).xe := passes_of rfl
end
section
variable {G : Glob} {O : List Nat} {W : WX} {Φ : Fns} {X : Cx} {pos : Pos} {x : PySem.Str}
theorem e_gstr {s : List Nat} (h : ∃ t, X.mg x = some (.str (txt s) t)) (hg : Gl X x := by rfl) (hd : (x == ("__debug__" : PySem.Str)) = false := by decide) : PE X (.Name x pos) (TEv G O W Φ (.cst (.str s)) true false) := by
  obtain ⟨t, h⟩ := h
  exact e_cst (pe_glob hg h (v := .str (txt s)) ⟨t, rfl⟩ hd) fun _ _ _ => .str s
theorem e_gint {i : Int} (h : ∃ t, X.mg x = some (.int i t)) (hg : Gl X x := by rfl) (hd : (x == ("__debug__" : PySem.Str)) = false := by decide) : PE X (.Name x pos) (TEv G O W Φ (.cst (.int i)) true false) := by
  obtain ⟨t, h⟩ := h
  exact e_cst (pe_glob hg h (v := .int i) ⟨t, rfl⟩ hd) fun _ _ _ => .int i
end
end WB
namespace WB
open PySem PySem.Spec PyProof.Rows L2
section
variable {X : Cx} {pins : List (Addr × Obj)} {σ : L2.St} {H : Hp} {s : Shared}
end
section
variable {G : Glob} {O : List Nat} {W : WX} {Φ : Fns} {F : Nat} {X : Cx} {σ : L2.St} {H : Hp} {pos : Pos} {e : Expr} {c : E} {fr : Bool}
end
structure Xc (K : PySem.W.Frag) (cls : Nat → Addr) (ks : List Nat) : Prop where
  c : ∀ k ∈ ks, ExcC K (cls k)
  i : ∀ k ∈ ks, ∀ j ∈ ks, PySem.W.kitOne K (.ref (cls k)) (.ref (cls j)) = some (decide (k = j))
  v : ∀ k ∈ ks, PySem.W.kitOne K (.ref (cls k)) (.type "ValueError") = some true
section
variable {G : Glob} {O : List Nat} {W : WX} {Φ : Fns} {X : Cx} {pos : Pos} {e : Expr} {ce : E} {sf fr : Bool}
theorem RT.exc {pl : Pl} {o : Objs} {H : Hp} {B : Addr → Prop} {v : V} {k : Nat} (h : RT G pl o H B v (.exc k)) : ∃ a, v = .ref a ∧ H a = some (ExcH (G.clsA k) a) := by
  rcases h with h | ⟨p, _, _, h⟩
  · cases h with
    | exc _ b h => exact ⟨_, rfl, h⟩
  · exact h.elim
end
def hookM (n : Nat) (fa : List He.Fa) (fn : List He.DefD) (ex : PySem.W.Frag → Bool) : PySem.W.Hook where
  α := Bool × He.AlD
  obs := fun s => (ex (He.frG s.heap.get? (He.asD s.heap.get? n)), He.obsDG n fa fn s.heap.get?)
  val := fun _ => (true, He.valD fn)
  says := fun _ h => ∃ K : PySem.W.Frag, K.In h ∧ He.SaysD fa fn K ∧ ex K = true
  of := fun _ _ e => ⟨_, He.frG_in, congrArg (fun z : Bool × He.AlD => z.2) e, congrArg (fun z : Bool × He.AlD => z.1) e⟩
  keeps := fun _ _ _ ⟨K, hK, c⟩ k => ⟨K, PySem.W.Frag.In.keeps hK k, c⟩
def obsM (n : Nat) (fa : List He.Fa) (fn : List He.DefD) (ex : PySem.W.Frag → Bool) (g : Addr → Option Obj) : Bool × He.AlD := (ex (He.frG g (He.asD g n)), He.obsDG n fa fn g)
theorem obsM_eq {n : Nat} {fa : List He.Fa} {fn : List He.DefD} {ex : PySem.W.Frag → Bool} {g : Addr → Option Obj} {s : Shared} (h : ∀ a, g a = s.heap.get? a) : obsM n fa fn ex g = (hookM n fa fn ex).obs s := by
  have e : g = s.heap.get? := funext h
  rw [e] <;> rfl
end WB
namespace WB
open PySem PySem.Spec PyProof.Rows L2
section
variable {G : Glob} {P : Program} {w : World} {K : PySem.W.Frag} {mg : PySem.Str → Option Value} {base : Heap} {k : Nat} {x : PySem.Str}
theorem k_fn {st : Stmt} {N ps : List PySem.Str} {Φ : Fns} {f : Addr} {fd : FuncData} (Fd : FunD K x x (defArgs st) (defBody st) (defScope st) [] [] f fd) (S : FnScope N ps (defScope st)) (O : List Nat) (F : Nat) (code : List WB.S)
    (hb : ∀ (f : Addr) (cdv : Value) (A : Around) (outer : List Env) (s : Shared) (H : Hp) (E : XK), Room k (A.deeper (envOfC x (defScope st) s.heap.objs.size f cdv)) → XO G (WD E) (cxOf (L2.CX P w) P w K mg base N x (defScope st) f cdv A outer s H E) → PSs (cxOf (L2.CX P w) P w K mg base N x (defScope st) f cdv A outer s H E) (defBody st) (TLv G O (WD E) Φ F code))
    (hK : K = G.K ∧ P = G.P ∧ w = G.w) (hO : ∀ i ∈ O, ps.length ≤ i := by decide) : FnOk P w K mg base (L2.CX P w) (k + 1) f fd ps (spD G ps.length (denM Φ F ps.length N.length code)) :=
  f_def Fd S O F code hO fun cdv A outer s H E _ hr => hb f cdv A outer s H E hr ⟨hK.1, rfl, S.nd, hr.units, takes_of rfl rfl rfl rfl, hK.2⟩
theorem reps_ints {pl : Pl} {H : Hp} {B : Addr → Prop} : ∀ ns : List Int, Reps G pl H B (ns.map V.int) (ns.map D.int)
  | [] => .nil
  | n :: ns => .cons (.int n) (reps_ints ns)
theorem law_sp {H : Hp} {a : Addr} {ns : List Int} {den : List D → M D} {o' : Objs} (hT : G.T = []) (hK : G.K = K) (only : Only H) (h : SqL K H a (ns.map V.int)) (hd : den [.scr (ns.map D.int)] [] = .ok (.bl true) o') : spD G 1 den [.ref a] H (fun v _ => v = .bl true) fun _ _ _ => False := by
  have nl : ∀ k, ¬ live G [] k := fun k z => by
    cases k with
    | ob n => exact absurd (show n < 0 from z) (Nat.not_lt_zero n)
    | od n => obtain ⟨c, fs, q⟩ := z; cases q
    | fl n f => exact z
    | tb i => exact absurd (show i < G.T.length from z) (by rw [hT]; exact Nat.not_lt_zero i)
  refine ⟨rfl, fun _ => False, ⟨fun _ => 0, 0⟩, [], [.scr (ns.map D.int)], fun _ z => z.elim, fun _ z => z.elim, ⟨rfl, fun k _ z => absurd z (nl k), fun k z => absurd z (nl k), (fun n d z => by cases z), (fun n c fs z => by cases z), (fun i p z => by rw [hT] at z; cases z), (fun p z => by rw [hT] at z; cases z), (fun n l kd z => by cases z), (fun n d z => by cases z)⟩, .cons (.scr ?_ (reps_ints ns)) .nil, ?_⟩
  · rw [hK]
    rcases h with (h | h) | h
    · rcases only a with z | ⟨o, xs, z⟩
      · rw [h] at z; cases z
      · rw [h] at z; cases z
    · exact .inl h
    · exact .inr h
  · unfold Post
    rw [hd]
    intro v H' pl' _ _ r
    cases r
    rfl
theorem fn_shut {lv : Nat} {f : Addr} {fd : FuncData} {ps : List PySem.Str} {sp : Sp} (F : FnOk P w K mg base (L2.CX P w) lv f fd ps sp) : FnOk P w K mg base CX0 lv f fd ps (fun vs H Q E => sp vs H Q fun _ _ _ => False) :=
  ⟨fun vs H Q E q => F.len vs H Q _ q, fun A outer s H args us vs Q E hr he hb hv hs => by
    refine codeAny_mono (F.run A outer s H args us vs Q (fun _ _ _ => False) hr he hb hv hs) fun r s' z => ?_
    cases r with
    | ok c => cases c <;> exact z
    | error e =>
      obtain ⟨_, _, _, _, _, _, _, _, _, _, _, _, y⟩ := z
      exact y.elim⟩
end
end WB
namespace WB
open PySem PySem.Spec PyProof.Rows L2
section
variable {G : Glob} {O : List Nat} {W : WX} {Φ : Fns} {F : Nat} {X : Cx} {σ : L2.St} {H : Hp} {pos : Pos}
theorem OwnRep.sub {pl : Pl} {B B' : Addr → Prop} {p : Addr} {d : D} (x : OwnRep G pl H B p d) (h : ∀ a, B' a → B a) : OwnRep G pl H B' p d := by
  cases d with
  | lst ds =>
    obtain ⟨vs, hh, rs⟩ := x
    exact ⟨vs, hh, rs.sub h⟩
  | dic t kd =>
    obtain ⟨u, ks, ws, ds, hh, oo, rs, q⟩ := x
    exact ⟨u, ks, ws, ds, hh, oo, rs.sub h, q⟩
  | _ => exact x.elim
def Cal (G : Glob) (X : Cx) (n : Nat) (a : Addr) (den : List D → M D) : Prop := ∃ (lv : Nat) (fd : FuncData) (ps : List PySem.Str), FnOk X.prog X.w X.K X.mg X.base (L2.CX X.prog X.w) lv a fd ps (spD G n den) ∧ Room lv X.A ∧ PySem.W.keepIn X.K (.ref a) = true ∧ Binds X.K fd ps []
inductive Fcs (G : Glob) (X : Cx) (Φ : Fns) (n : Nat) : List Expr → List Nat → Prop where
  | nil : Fcs G X Φ n [] []
  | cons {x : PySem.Str} {p : Pos} {es : List Expr} {ks : List Nat} (k : Nat) (F : Fc G X.prog X.w X.K X.mg X.base X.A x n (Φ k)) (t : Fcs G X Φ n es ks) (hg : Gl X x := by rfl) (hd : (x == ("__debug__" : PySem.Str)) = false := by decide) : Fcs G X Φ n (.Name x p :: es) (k :: ks)
theorem Fcs.pa {n : Nat} : ∀ {es : List Expr} {ks : List Nat}, Fcs G X Φ n es ks → ∃ as : List Addr, PA X es (fun _ H Q => Q (as.map V.ref) H) ∧ as.length = ks.length ∧ ∀ (j k : Nat), ks[j]? = some k → ∃ a, as[j]? = some a ∧ Cal G X n a (Φ k)
  | _, _, .nil => ⟨[], PA.imp pa_nil fun _ _ _ h => h, rfl, fun j k h => by simp at h⟩
  | _, _, .cons k F t hg hd => by
    obtain ⟨as, h1, h2, h3⟩ := t.pa
    obtain ⟨lv, fa, fd, ps, ok, room, hm, hk, hb⟩ := F.ex
    refine ⟨fa :: as, PA.imp (pa_cons (pe_glob hg hm (v := .ref fa) rfl hd) h1 rfl) fun _ _ _ h => h, by simp [h2], fun j k' e => ?_⟩
    cases j with
    | zero =>
      simp at e
      subst e
      exact ⟨fa, rfl, lv, fd, ps, ok, room, hk, hb⟩
    | succ j => exact h3 j k' (by simpa using e)
variable {e ix : Expr} {es ls : List Expr} {ci : E} {ces : List E} {si fi : Bool}
end
end WB
namespace WB
open PySem PySem.Spec PyProof.Rows L2
section
variable {X : Cx} {pins : List (Addr × Obj)} {σ : L2.St} {H : Hp} {s : Shared}
end
section
variable {G : Glob} {O : List Nat} {σ : L2.St} {H H1 : Hp}
end
structure FnC (P : Program) (w : World) (K : PySem.W.Frag) (mg : PySem.Str → Option Value) (base : Heap) (CX : CXT) (k : Nat) (f : Addr) (fd : FuncData) (ps : List PySem.Str) (sp : Addr × Obj → Sp) : Prop where
  len : ∀ p vs H Q E, sp p vs H Q E → vs.length = ps.length
  run : ∀ (A : Around) (outer : List Env) (s : Shared) (H : Hp) (args : Args) (us : List Value) (vs : List V) (Q : VK) (E : XK) (p : Addr × Obj), L2H.RoomH k A → L2H.PinOk outer H s p → Env0 P w K mg base A outer s H → BindsTo s fd args (ps.zip us) → Vals vs us → sp p vs H Q E →
    codeAny (model P w) A (.call (.ref f) args) (CR CX outer P w H s Q E) s
section
variable {P : Program} {w : World} {K : PySem.W.Frag} {mg : PySem.Str → Option Value} {base : Heap} {x qual : PySem.Str} {params : Arguments} {body : List Stmt} {scope : Scope} {kws : List (PySem.Str × V)} {f : Addr} {fd : FuncData} {CX : CXT} {k : Nat}
end
end WB
namespace WB
open PySem PySem.Spec PyProof.Rows L2
section
variable {G : Glob} {O : List Nat} {W : WX} {Φ : Fns} {F : Nat} {X : Cx} {pos : Pos} {a b e : Expr} {ca cb ce : E} {sa fa sb fb sf fr : Bool}
structure Pin (G : Glob) (X : Cx) (A k : Nat) (ks : List Nat) : Prop where
  ex : ∃ oe : Obj, (A, oe) ∈ X.pn ∧ Zc (.ref (G.clsA k)) none oe ∧ ∃ vs, oe.data = .fields vs
  k : k ∈ ks
  xc : Xc X.K G.clsA ks
theorem RT.hot {pl : Pl} {o : Objs} {H : Hp} {B : Addr → Prop} {v : V} {A k : Nat} (h : RT G pl o H B v (.hot A k)) : v = .ref A := by
  rcases h with h | ⟨p, _, _, h⟩
  · cases h; rfl
  · exact h.elim
end
def spW (G : Glob) (ks : List Nat) (ws : List (Option (List Nat))) : Addr × Obj → Sp := fun p vs H Q E => vs = [.ref p.1] ∧ ∃ (k : Nat) (wd : List Nat), k ∈ ks ∧ ws[k]? = some (some wd) ∧ Zc (.ref (G.clsA k)) none p.2 ∧ (∃ us, p.2.data = .fields us) ∧ spD G 1 (fun _ => pure (.str wd)) vs H Q E
structure HotW (G : Glob) (P : Program) (w : World) (K : PySem.W.Frag) (mg : PySem.Str → Option Value) (base : Heap) (lv : Nat) (ks : List Nat) (ws : List (Option (List Nat))) : Prop where
  ex : ∃ (f : Addr) (fd : FuncData), FnC P w K mg base (L2.CX P w) lv f fd ["kept"] (spW G ks ws) ∧ mg "_law_word" = some (.ref f) ∧ PySem.W.keepIn K (.ref f) = true ∧ Binds K fd ["kept"] []
section
variable {G : Glob} {O : List Nat} {W : WX} {Φ : Fns} {X : Cx} {pos : Pos}
structure ToldD (K : PySem.W.Frag) (mg : PySem.Str → Option Value) (st : Stmt) : Prop where
  ft : FnP K mg "_law_told" st
  b : ∀ {f : Addr} {fd : FuncData}, FunD K "_law_told" "_law_told" (defArgs st) (defBody st) (defScope st) [] [] f fd → Binds K fd ["deed"] []
  s : FnScope ["deed", "e"] ["deed"] (defScope st)
  sh : ∃ p1 p2 p3 p4 p5 p6 p7 p8 p9 p10 : Pos, defBody st = [.Try [.Return (some (.Call (.Name "deed" p1) [] [] p2)) p3] [.ExceptHandler (some (.Name "LetterError" p4)) (some "e") [.Return (some (.Call (.Name "_law_word" p5) [.Name "e" p6] [] p7)) p8] p9] [] [] p10]
  gL : (defScope st).names.lookup ("LetterError" : PySem.Str) = some .globalImplicit
  gW : (defScope st).names.lookup ("_law_word" : PySem.Str) = some .globalImplicit
  ld : (defScope st).names.lookup ("deed" : PySem.Str) = some .local
  le : (defScope st).names.lookup ("e" : PySem.Str) = some .local
end
end WB
namespace WB
open PySem PySem.Spec PyProof.Rows L2
section
variable {G : Glob} {P : Program} {w : World} {K : PySem.W.Frag} {mg : PySem.Str → Option Value} {base : Heap} {k : Nat} {x : PySem.Str}
end
end WB
namespace WB
open PySem PySem.Spec PyProof.Rows L2
section
variable {P : Program} {w : World} {A : Around} {E : Value → Shared → Prop} {s : Shared} {a : Addr} {S : PySem.Str → Prop} {n : Nat}
theorem strs_list : ∀ vs : List Value, (∀ v ∈ vs, ∃ x t, v = Value.str x t) → StrsAre vs (vs.map fun v => match v with | .str x _ => x | _ => PySem.Str.empty)
  | [], _ => .nil
  | v :: vs, h => by
    obtain ⟨x, t, e⟩ := h v (List.mem_cons_self ..)
    subst e
    exact .cons x t (strs_list vs fun y hy => h y (List.mem_cons_of_mem _ hy))
theorem setS_sorted {Q : Value → Shared → Prop} (R : SetS w s.heap a S n) (hh : A.handled = none) (room : n + 1 < scanBound)
    (hQ : ∀ s' p (out : Array Value) (c : Nat) (ys : List PySem.Str), (∀ b o, s.heap.get? b = some o → s'.heap.get? b = some o) → s'.gens = s.gens → s'.os = s.os → s.heap.objs.size ≤ p →
      s'.heap.get? p = some (seqObj "list" out c) → StrsAre out.toList ys → sortedS ys = true → ys.Nodup → (∀ k, k ∈ ys ↔ S k) → ys.length ≤ n → Q (.ref p) s') : wpAny (model P w) A (call (.builtin "sorted") [.ref a]) Q E s := by
  obtain ⟨ob, es, ep, t, ho, hx, hd, g, nd, hm, hz, hf, hr, hl⟩ := R.ex
  refine Calls.call_function_entry kind_sorted plain_sorted entry_sorted (args_sorted1 _) ?_
  unfold Builtin.«sorted»
  refine wpAny_bind (m := checkCount "sorted" 1 1 _) (wpAny_pure (wpAny_bind (collect_set (A := A.in1) hh ⟨ob, ho, hx.1, hd⟩ hf (by omega) hr hl fun s1 vs k1 z1 g1 o1 pm => ?_)))
  have lv : vs.length ≤ n := by rw [pm.length_eq, List.length_map, Array.length_toList]; exact hz
  have hS := strs_list vs fun v hv => by
    obtain ⟨e, he, q⟩ := List.mem_map.mp (pm.mem_iff.mp hv)
    obtain ⟨x, tk, h1, _⟩ := g e he
    exact ⟨x, tk, by rw [← q]; exact h1⟩
  generalize hxs : (vs.map fun v => match v with | .str x _ => x | _ => PySem.Str.empty) = xs at hS
  have pk : xs.Perm (es.toList.map entS) := by
    have q := pm.map (fun v => match v with | .str x _ => x | _ => PySem.Str.empty)
    rw [hxs, List.map_map] at q
    exact q
  have lz : vs.length ≤ sizeLine := by rw [sizeLine_eq]; unfold scanBound at room; omega
  refine wpAny_bind (wpAny_newList ?_ (by exact lz))
  have gL : (s1.heap.push (seqObj "list" vs.toArray 0)).get? s1.heap.objs.size = some (seqObj "list" vs.toArray 0) := Heap.get?_push_size _ rfl
  refine wpAny_bind (wpAny_holding (wpAny_call_entry slot_list_sort ⟨_, gL, rfl⟩ entry_list_sort (list_sort_treeKAny strKind_oneLt gL hS.keysOf (fun v₁ v₂ rest e => keyKind_strs (by rw [← e]; exact hS)) lz fun st' hp hs => ⟨_, rfl, ?_⟩) (args_list_sort _)))
  obtain ⟨ys, h1, h2, h3⟩ := sorted_out_str hS hp hs
  obtain ⟨c, hc⟩ := sortedHeap_at (vs := vs) (out := (arrOf st').map (·.2)) gL
  have py : ys.Perm (es.toList.map entS) := h2.trans pk
  refine wpAny_pure ⟨_, rfl, hQ _ s1.heap.objs.size _ c ys (fun b u e => ?_) g1 o1 z1 hc h1 h3 (py.nodup_iff.mpr nd) (fun k => by rw [py.mem_iff, ← hm k]) (by rw [py.length_eq, List.length_map, Array.length_toList]; exact hz)⟩
  have q := k1 b u e
  have lt := Heap.lt_size q
  show (sortedHeap (s1.heap.push (seqObj "list" vs.toArray 0)) s1.heap.objs.size vs _).get? b = some u
  rw [sortedHeap_old (Nat.ne_of_lt lt) (by rw [size_push']; exact Nat.lt_succ_of_lt lt)]; exact Heap.get?_push_of_some _ q
end
end WB
namespace WB
open PySem PySem.Spec PyProof.Rows L2
def SetSO (w : World) (a : Addr) (xs : List PySem.Str) : HO := .ext fun h => SetS w h a (fun x => x ∈ xs) xs.length
theorem strs_vals : ∀ {xs : List PySem.Str} {us : List Value}, Vals (xs.map V.str) us → StrsAre us xs
  | [], _, r => by cases r; exact .nil
  | x :: xs, _, r => by
    cases r with
    | cons h t =>
      obtain ⟨k, rfl⟩ := h
      exact .cons x k (strs_vals t)
theorem vals_strs : ∀ {us : List Value} {xs : List PySem.Str}, StrsAre us xs → Vals (xs.map V.str) us
  | _, _, .nil => .nil
  | _, _, .cons x t h => .cons ⟨t, rfl⟩ (vals_strs h)
section
variable {X : Cx}
theorem cr_setS (hc : X.calm = true) : CallR X (.type "set") (fun vs H Q => ∃ a xs, vs = [.ref a] ∧ H a = some (.lst (xs.map V.str)) ∧ xs.length < 1000 ∧ ∀ p, H p = none → Q (.ref p) (upd H p (SetSO X.w p xs))) := by
  intro pins s σ H vs us Q I r h
  obtain ⟨a, xs, rfl, ha, l64, q⟩ := h
  obtain ⟨u, rfl, ru⟩ := vals1 r
  cases ru
  obtain ⟨its, rv, pl, hz⟩ := I.list (SqL.of ha)
  refine call_setL xs (I.ok.hd hc) pl.isList (strs_vals (by simpa using rv)) (by unfold scanBound; omega) fun h' tk T kk => ?_
  have hn : H s.heap.objs.size = none := I.hok.fresh (Nat.le_refl _)
  obtain ⟨ob, es, ep, t, ho, _⟩ := T.ex
  have new : ObjOk X.prog X.w (upd H s.heap.objs.size (SetSO X.w s.heap.objs.size xs)) h' s.heap.objs.size (SetSO X.w s.heap.objs.size xs) := ⟨T, ⟨ob, ho⟩, fun h1 h2 φ k2 => SetS.at φ k2⟩
  exact ⟨.ref s.heap.objs.size, _, I.laid (t' := tk) kk (Nat.le_refl _) new, rfl, q _ hn⟩
theorem cr_sortS (hc : X.calm = true) : CallR X (.builtin "sorted") (fun vs H Q => ∃ a xs, vs = [.ref a] ∧ H a = some (SetSO X.w a xs) ∧ xs.length < 1000 ∧ ∀ (ys : List PySem.Str) p, sortedS ys = true → ys.Nodup → (∀ k, k ∈ ys ↔ k ∈ xs) → H p = none → Q (.ref p) (upd H p (.lst (ys.map V.str)))) := by
  intro pins s σ H vs us Q I r h
  obtain ⟨a, xs, rfl, ha, l64, q⟩ := h
  obtain ⟨u, rfl, ru⟩ := vals1 r
  cases ru
  have T : SetS X.w s.heap a (fun x => x ∈ xs) xs.length := (I.hok a _ ha).1
  refine setS_sorted T (I.ok.hd hc) (by unfold scanBound; omega) fun s' p out c ys kk g o hp hg hi hs nd hm hl => ?_
  have hlen : (ys.map V.str).length ≤ sizeLine := by rw [List.length_map, sizeLine_eq]; omega
  have hn : H p = none := I.hok.fresh hp
  have J : Inv X pins σ (upd H p (.lst (ys.map V.str))) { s with heap := s'.heap, gens := s'.gens, drawn := s'.drawn, toks := s'.toks } :=
    I.call (ch := []) (Un.laid kk hp hn) (I.hok.laid kk hp ⟨hlen, out.toList, c, vals_strs hi, hg⟩) (by rw [g]; exact I.bare) (fun _ z => nomatch z)
  have e : s' = { s with heap := s'.heap, gens := s'.gens, drawn := s'.drawn, toks := s'.toks } := by
    obtain ⟨_, _, _, _, _⟩ := s'
    obtain ⟨_, _, _, _, _⟩ := s
    dsimp only at o
    subst o
    rfl
  rw [e]
  exact ⟨.ref p, _, J, rfl, q ys p hs nd hm hn⟩
end
end WB
namespace WB
open PySem PySem.Spec PyProof.Rows L2
section
variable {G : Glob} {O : List Nat} {W : WX} {Φ : Fns} {X : Cx} {e : Expr} {ce : E} {sf fr : Bool} {p p2 pos pos2 : Pos}
theorem mem_txt (bs : List (List Nat)) (ys : List PySem.Str) (h : ∀ k, k ∈ ys ↔ k ∈ bs.map txt) : ∀ x, x ∈ (ys.map fun y => y.cps.toList) ↔ x ∈ bs := fun x => by
  constructor
  · intro hx
    obtain ⟨y, hy, rfl⟩ := List.mem_map.mp hx
    obtain ⟨b, hb, e⟩ := List.mem_map.mp ((h y).mp hy)
    rw [← e]
    simpa using hb
  · intro hx
    exact List.mem_map.mpr ⟨txt x, (h _).mpr (List.mem_map.mpr ⟨x, hx, rfl⟩), by simp⟩
theorem ris_of : ∀ {l : List (List Nat)}, UpT l → l.Nodup → RisT l
  | [], _, _ => .nil
  | a :: l, u, d => by
    obtain ⟨u1, u2⟩ := List.pairwise_cons.mp u
    obtain ⟨d1, d2⟩ := List.nodup_cons.mp d
    refine List.pairwise_cons.mpr ⟨fun b hb => ?_, ris_of u2 d2⟩
    cases q : ltT a b with
    | true => rfl
    | false => exact absurd (leT_anti q (u1 b hb)) (fun z => d1 (z ▸ hb))
theorem nodup_cps {ys : List PySem.Str} (h : ys.Nodup) : (ys.map fun y => y.cps.toList).Nodup := by
  refine List.Pairwise.map _ (fun a b hab => ?_) h
  intro z
  apply hab
  apply PySem.Str.ext'
  exact Array.toList_inj.mp z
theorem e_sset (xo : XO G W X) (hm : X.mg "sorted" = none) (hm2 : X.mg "set" = none) (he : PE X e (TEv G O W Φ ce sf fr)) (hg : Gl X "sorted" := by rfl) (hg2 : Gl X "set" := by rfl)
    (hst : starEach [e] X.env = (false, eval e X.env) :: starEach [] X.env := by rfl) :
    PE X (.Call (.Name "sorted" p) [.Call (.Name "set" p2) [e] [] pos2] [] pos) (TEv G O W Φ (.blt .sortedSet [ce]) true true) :=
  PE.imp (pe_callB (cr_sortS xo.calm) hg hm (by decide +kernel) (pa_cons (pe_callTy (cr_setS xo.calm) hg2 hm2 (by decide +kernel) (a_cons he a_nil hst) (by decide) (by decide) hst rfl) pa_nil rfl) (by decide) (by decide) rfl rfl) fun σ H Q ⟨f, h⟩ => by
    refine TAv.then f h fun vs H1 f1 ds t x h1 => ?_
    obtain ⟨z, ez, k⟩ := (cm_blt .sortedSet ds).post h1
    obtain ⟨d, rfl⟩ : ∃ d, ds = [d] := by
      rcases ds with _ | ⟨d, _ | ⟨d2, _ | ⟨d3, r⟩⟩⟩
      · exact absurd (congrFun ez []) (by intro q; cases q)
      · exact ⟨d, rfl⟩
      · exact absurd (congrFun ez []) (by intro q; cases q)
      · exact absurd (congrFun ez []) (by intro q; cases q)
    obtain ⟨v, rfl, hv⟩ := one_of x.rt
    cases d with
    | lst l =>
      have ez' : (match strsOf l with | some l => if l.length < 1000 then pure (.lst ((sortU l).map D.str)) else M.fail | none => M.fail) = (pure z : M D) := ez
      obtain ⟨a, us, rfl, ha, rs⟩ := hv.lst
      split at ez'
      · rename_i bs eb
        split at ez'
        · rename_i l64
          obtain ⟨rfl, _⟩ := strs_of rs eb
          have zz := congrFun ez' []
          cases zz
          refine ⟨a, bs.map txt, rfl, ha, by simpa using l64, fun p hp => ?_⟩
          have al : Al H1 (upd H1 p (SetSO X.w p (bs.map txt))) := Ext.new hp
          refine ⟨p, bs.map txt, rfl, upd_same, by simpa using l64, fun ys q hs nd hm hq => ?_⟩
          have e1 : (ys.map fun y => y.cps.toList) = sortU bs := sortU_eq (mem_txt bs ys hm) (ris_of (up_of_sortedS hs) (nodup_cps nd))
          have e2 : ys = (sortU bs).map txt := by rw [← e1, map_txt]
          rw [e2]
          exact Out.newL (KE.out (f1 := f1.al al) (t.trans (f1.al_to al)) k) (fun a => (f1.al al).sr.some) (reps_strs _) hq
        · exact absurd (congrFun ez' []) (by intro q; cases q)
      · exact absurd (congrFun ez' []) (by intro q; cases q)
    | _ => exact absurd (congrFun ez []) (by intro q; cases q)
end
end WB
namespace WB
open PySem PySem.Spec PyProof.Rows L2
section
variable {P : Program} {w : World} {A : Around} {E : Value → Shared → Prop} {s : Shared}
theorem extend_str {R : Result → Shared → Prop} (hh : A.handled = none) (x : PySem.Str) (t : Tok) (S : Addr) (res : Value) (c₀ : Nat) (hS : s.heap.get? S = some { cls := .type "list", data := .seq #[] c₀ })
    (hR : ∀ h' tk acc' c', (∀ b o, b ≠ S → s.heap.get? b = some o → h'.get? b = some o) → h'.get? S = some { cls := .type "list", dict := none, data := .seq acc' c', slots := #[] } → ItemsOf (SignAt x) acc' x.cps.size → R (.ok (.ret res)) { s with heap := h', toks := tk }) (hn : x.cps.size ≤ sizeLine) :
    wpAny (model P w) A.in1 (Builtin.List.listExtendWith (.ref S) (.str x t) res)
      (fun fin s' => match fin with | .done f => R (.ok f) s' | .again c' => c'.quiet = true ∧ codeAny (model P w) A c' R s') (fun e s' => R (.error e) s') s := by
  unfold Builtin.List.listExtendWith
  refine wpAny_bind (wpAny_typeOf (T := "str") (v := .str x t) rfl ?_)
  have h1 : Builtin.List.listSameRef (.ref S) (.str x t) = false := rfl
  have h2 : (Value.type "str" == Value.type "list") = false := by decide
  have h3 : (Value.type "str" == Value.type "tuple") = false := by decide
  simp only [h1, h2, h3, Bool.or_false, Bool.false_eq_true, if_false]
  refine wpAny_bind (wpAny_pyIter_str fun o St W hst => ?_)
  refine wpAny_bind (wpAny_holding ?_)
  unfold Builtin.List.listLengthHint
  refine wpAny_bind (wpAny_specialOf (T := "str") (v := .str x t) rfl F.str_len ?_)
  wp_delta
  refine wpAny_bind (wpAny_isInstance (T := "str") (v := .str x t) (b := true) rfl (by rw [isSubtype_type]; kernel_rfl) ?_)
  show wpAny _ A.in1 (typeOf (Value.str x t) >>= _) _ _ _
  refine wpAny_bind (wpAny_typeOf (T := "str") (v := .str x t) rfl ?_)
  refine wpAny_pure ?_
  rw [if_neg (by decide)]
  have ne : S ≠ s.heap.objs.size := Nat.ne_of_lt (Heap.lt_size hS)
  have out : S ∉ [s.heap.objs.size] := fun z => ne (List.mem_singleton.mp z)
  have hS1 := Heap.get?_push_of_some o hS
  refine wpAny_pure ⟨plainId_quiet F.plain_extend_loop _, codeAny_extend_loopS (W A.in1 hh).toS hn _ out _ x.cps.size 0 _ _ _ rfl (Nat.zero_le _) hst hS1 (ItemsOf.nil _) fun s' acc' c' hm hS' hacc => ?_⟩
  rw [Moved.eq_with hm]
  refine hR s'.heap s'.toks acc' c' (fun b o hb e => hm.heap b o (fun z => ?_) (Heap.get?_push_of_some _ e)) hS' hacc
  rcases List.mem_cons.mp z with z | z
  · exact hb z
  · have := Heap.lt_size e
    rw [List.mem_singleton.mp z] at this
    exact absurd this (Nat.lt_irrefl _)
theorem list_str {Q : Value → Shared → Prop} (hh : A.handled = none) (x : PySem.Str) (t : Tok) (hn : x.cps.size ≤ sizeLine)
    (hQ : ∀ h' tk acc' c', (∀ b o, s.heap.get? b = some o → h'.get? b = some o) → h'.get? s.heap.objs.size = some { cls := .type "list", dict := none, data := .seq acc' c', slots := #[] } → ItemsOf (SignAt x) acc' x.cps.size → Q (.ref s.heap.objs.size) { s with heap := h', toks := tk }) :
    wpAny (model P w) A (call (.type "list") [.str x t]) Q E s := by
  refine callType_codes (Q₁ := fun obj s₁ => obj = .ref s.heap.objs.size ∧ s₁ = { s with heap := s.heap.push { cls := .type "list", data := .seq #[] } }) PySem.F.called_list (PySem.F.typeCall_list_1 _) PySem.F.entry_list_init
    (code_list_new _ ⟨rfl, rfl⟩) fun obj s₁ h₁ => ?_
  obtain ⟨rfl, rfl⟩ := h₁
  have hS : (s.heap.push { cls := .type "list", data := .seq #[] }).get? s.heap.objs.size = some { cls := .type "list", data := .seq #[] } := Heap.get?_push_size _ rfl
  refine ⟨⟨_, hS, rfl⟩, PySem.F.args_list_init_2 _ _, ?_⟩
  show wpAny _ _ (do let old ← Builtin.List.listItems (.ref s.heap.objs.size); Builtin.List.listUpdate (.ref s.heap.objs.size) (fun _ => #[]); letGo old.toList.reverse; Builtin.List.listExtendWith (.ref s.heap.objs.size) (.str x t) .none) _ _ _
  refine wpAny_bind ?_
  unfold Builtin.List.listItems
  refine wpAny_bind (wpAny_seqItems hS rfl (wpAny_pure ?_))
  show wpAny _ _ (updateSeq s.heap.objs.size (fun _ => #[]) >>= fun _ => letGo (#[] : Array Value).toList.reverse >>= fun _ => Builtin.List.listExtendWith (.ref s.heap.objs.size) (.str x t) .none) _ _ _
  refine wpAny_bind (wpAny_updateSeq hS rfl ?_)
  have hS2 := Heap.get?_update_self (Obj.mapSeq (fun _ => (#[] : Array Value))) hS rfl
  refine wpAny_bind (wpAny_letGo ?_)
  refine extend_str (A := A.in1) hh x t _ _ _ hS2 (fun h' tk acc' c' hk hS' hacc => ?_) hn
  refine ⟨rfl, hQ h' tk acc' c' (fun b o e => hk b o (Nat.ne_of_lt (Heap.lt_size e)) ?_) hS' hacc⟩
  exact (Heap.get?_update_other _ _ (Ne.symm (Nat.ne_of_lt (Heap.lt_size e)))).trans (Heap.get?_push_of_some _ e)
end
section
variable {X : Cx}
end
section
variable {G : Glob} {O : List Nat} {W : WX} {Φ : Fns} {X : Cx} {e : Expr} {ce : E} {sf fr : Bool} {p pos : Pos}
end
end WB
namespace WB
open PySem PySem.Spec PyProof.Rows L2
section
variable {G : Glob} {pl : Pl} {o : Objs} {H : Hp} {B : Addr → Prop}
variable {κ : Type} [DecidableEq κ] {f : κ → D} {k : κ} {d : D}
end
section
variable {G : Glob} {O : List Nat} {W : WX} {Φ : Fns} {F : Nat} {X : Cx} {σ : L2.St} {H : Hp} {pos : Pos} {a i e : Expr} {ca ci ce : E} {sa fa si fi se fe : Bool}
theorem ext_updG {p : Addr} {u u' : HO} (hp : H p = some u) (nt : ∀ xs, u ≠ .tup xs) (nf : ∀ o w, u ≠ .frz o w) (nc : ∀ φ, u ≠ .ext φ) : Ext (fun a => a = p) H (upd H p u') := by
  refine ⟨fun a w na h => ?_, fun a us h => ?_, fun a w x h => ?_, fun a q h => ?_, fun a h => ?_⟩
  · rw [upd_ne na]; exact h
  · rw [upd_ne (fun z => by rw [z, hp] at h; exact nt _ (Option.some.inj h))]; exact h
  · rw [upd_ne (fun z => by rw [z, hp] at h; exact nf _ _ (Option.some.inj h))]; exact h
  · rw [upd_ne (fun z => by unfold LamX.CodeO at h; rw [z, hp] at h; exact nc _ (Option.some.inj h))]; exact h
  · by_cases z : a = p
    · rw [z, upd_same] at h; cases h
    · rw [upd_ne z] at h; exact h
theorem dobj_kind {u : HO} {t : Bool} {ks : List D} {ws : List V} (o : DObj u t ks ws) : (∀ xs, u ≠ .tup xs) ∧ (∀ o w, u ≠ .frz o w) ∧ ∀ φ, u ≠ .ext φ := by
  cases t with
  | false =>
    obtain ⟨kvs, rfl, _⟩ := o
    exact ⟨(fun _ z => by cases z), (fun _ _ z => by cases z), (fun _ z => by cases z)⟩
  | true =>
    obtain ⟨kvs, rfl, _⟩ := o
    exact ⟨(fun _ z => by cases z), (fun _ _ z => by cases z), (fun _ z => by cases z)⟩
end
end WB
namespace WB
open PySem PySem.Spec PyProof.Rows L2
section
variable {G : Glob} {O : List Nat} {W : WX} {Φ : Fns} {F : Nat} {X : Cx} {σ : L2.St} {H H' : Hp} {pl : Pl} {o o' : Objs} {B : Addr → Prop}
theorem live_set {n : Nat} {b b' : Ob} (h : o[n]? = some b) (hk : (∃ c fs, b = .ins c fs) ↔ ∃ c fs, b' = .ins c fs) (k : Kk) : live G (o.set n b') k ↔ live G o k := by
  cases k with
  | ob j => show j < (o.set n b').length ↔ j < o.length; rw [List.length_set]
  | od j =>
    show (∃ c fs, (o.set n b')[j]? = some (.ins c fs)) ↔ ∃ c fs, o[j]? = some (.ins c fs)
    by_cases z : j = n
    · subst z
      have l := (List.getElem?_eq_some_iff.mp h).1
      rw [List.getElem?_set_self l, h]
      constructor
      · rintro ⟨c, fs, q⟩
        obtain ⟨c', fs', q'⟩ := hk.mpr ⟨c, fs, Option.some.inj q⟩
        exact ⟨c', fs', by rw [q']⟩
      · rintro ⟨c, fs, q⟩
        obtain ⟨c', fs', q'⟩ := hk.mp ⟨c, fs, Option.some.inj q⟩
        exact ⟨c', fs', by rw [q']⟩
    · rw [List.getElem?_set_ne (Ne.symm z)]
  | fl a b => exact Iff.rfl
  | tb i => exact Iff.rfl
theorem vol_same (lv : ∀ k, live G o' k ↔ live G o k) : Vol G o' pl = Vol G o pl := by
  funext a
  exact propext ⟨fun ⟨k, l, e⟩ => ⟨k, (lv k).mp l, e⟩, fun ⟨k, l, e⟩ => ⟨k, (lv k).mpr l, e⟩⟩
theorem or_at {n : Nat} (r : OR G pl o H B) (e : Ext (fun a => a = pl.of (.ob n)) H H') (hn : n < o.length) (hl : o'.length = o.length) (ho : ∀ m, m ≠ n → o'[m]? = o[m]?) (lv : ∀ k, live G o' k ↔ live G o k) (bv : ∀ a, Vol G o pl a → B a)
    (nb : ∀ d, o'[n]? = some (.box d) → OwnRep G pl H' B (pl.of (.ob n)) d)
    (ni : ∀ c fs, o'[n]? = some (.ins c fs) → ∃ vs, H' (pl.of (.ob n)) = some (.ins (G.insA c) (pl.of (.od n)) vs) ∧ H (pl.of (.od n)) = some (.own (pl.of (.ob n))) ∧
      (∀ f d, fs.lookup f = some d → ∃ v, vs.lookup (G.fname f) = some v ∧ Rep G pl H' B v d) ∧ (∀ f, fs.lookup f = none → vs.lookup (G.fname f) = none) ∧ vs.length = fs.length)
    (nn : ∀ l kd, o'[n]? = some (.nd l kd) → NdRep G pl H' B (pl.of (.ob n)) l kd) (nl : ∀ d, o'[n]? = some (.lk d) → Rep G pl H' B (.ref (pl.of (.ob n))) d) : OR G pl o' H' B := by
  have l0 : live G o (.ob n) := hn
  have tb : ∀ a, a = pl.of (.ob n) → B a := fun a z => by rw [z]; exact bv _ ⟨_, l0, rfl⟩
  have reps : ∀ {vs : List V} {ds : List D}, Reps G pl H B vs ds → Reps G pl H' B vs ds := fun x => reps_gen e tb (fun _ _ z => z) x
  have rep : ∀ {v : V} {d : D}, Rep G pl H B v d → Rep G pl H' B v d := fun x => by
    cases reps (.cons x .nil) with
    | cons r _ => exact r
  have own : ∀ {p : Addr} {d : D}, p ≠ pl.of (.ob n) → OwnRep G pl H B p d → OwnRep G pl H' B p d := fun {p d} np x => by
    cases d with
    | lst ds =>
      obtain ⟨vs, h, rs⟩ := x
      exact ⟨vs, e.keep _ _ np h, reps rs⟩
    | dic t kd =>
      obtain ⟨u, ks, ws, ds, h, o, rs, q⟩ := x
      exact ⟨u, ks, ws, ds, e.keep _ _ np h, o, reps rs, q⟩
    | _ => exact x.elim
  have ne : ∀ k, live G o k → k ≠ .ob n → pl.of k ≠ pl.of (.ob n) := fun k l q z => q (r.inj k (.ob n) l l0 z)
  refine ⟨r.n.trans hl.symm, fun k k' l l' q => r.inj k k' ((lv k).mp l) ((lv k').mp l') q, fun k l z => r.there k ((lv k).mp l) (e.dom _ z), fun m d hm => ?_, fun m c fs hm => ?_, r.tbl, fun p hp => ?_, fun m l kd hm => ?_, fun m d hm => ?_⟩
  · by_cases c : m = n
    · subst c; exact nb d hm
    · rw [ho m c] at hm
      exact own (ne (.ob m) ((List.getElem?_eq_some_iff.mp hm).1) fun z => c (by injection z)) (r.box m d hm)
  · by_cases c1 : m = n
    · subst c1
      obtain ⟨vs, h1, h2, h3⟩ := ni c fs hm
      refine ⟨vs, h1, e.keep _ _ (ne (.od m) ((lv (.od m)).mp ⟨c, fs, hm⟩) (fun z => by cases z)) h2, h3⟩
    · rw [ho m c1] at hm
      obtain ⟨vs, h1, h2, h3, h4, h5⟩ := r.ins m c fs hm
      refine ⟨vs, e.keep _ _ (ne (.ob m) ((List.getElem?_eq_some_iff.mp hm).1) fun z => c1 (by injection z)) h1, e.keep _ _ (ne (.od m) ⟨c, fs, hm⟩ (fun z => by cases z)) h2, fun f d hf => ?_, h4, h5⟩
      obtain ⟨v, q1, q2⟩ := h3 f d hf
      exact ⟨v, q1, rep q2⟩
  · refine e.tabS (fun z => ?_) (r.tabs p hp)
    obtain ⟨i, hi, ei⟩ := List.mem_iff_getElem.mp hp
    have q : pl.of (.tb i) = p.1 := r.tbl i p (by rw [List.getElem?_eq_getElem hi, ei])
    exact ne (.tb i) hi (fun z => by cases z) (q.trans z)
  · by_cases c : m = n
    · subst c; exact nn l kd hm
    · rw [ho m c] at hm
      have np := ne (.ob m) ((List.getElem?_eq_some_iff.mp hm).1) fun z => c (by injection z)
      exact (r.nd m l kd hm).imp (fun u _ q => e.keep _ _ np q) (fun z u q => e.frzs _ _ _ q) reps
  · by_cases c : m = n
    · subst c; exact nl d hm
    · rw [ho m c] at hm
      exact rep (r.lk m d hm)
theorem step_at {n : Nat} (e : Ext (fun a => a = pl.of (.ob n)) H H') (hn : n < o.length) (lv : ∀ k, live G o' k ↔ live G o k) : Step G o o' pl pl H H' :=
  ⟨e.mono fun a z => ⟨.ob n, hn, z.symm⟩, fun k l => ⟨rfl, (lv k).mpr l⟩, fun k l n => absurd ((lv k).mp l) n, Nat.le_refl _⟩
theorem box_kind {p : Addr} {d : D} (h : OwnRep G pl H B p d) : ∃ u, H p = some u ∧ (∀ xs, u ≠ .tup xs) ∧ (∀ o w, u ≠ .frz o w) ∧ ∀ φ, u ≠ .ext φ := by
  cases d with
  | lst ds =>
    obtain ⟨vs, h, _⟩ := h
    exact ⟨_, h, (fun _ z => by cases z), (fun _ _ z => by cases z), (fun _ z => by cases z)⟩
  | dic t kd =>
    obtain ⟨u, ks, ws, ds, h, ob, _⟩ := h
    exact ⟨u, h, dobj_kind ob⟩
  | _ => exact h.elim
theorem Fs.boxed (f : Fs G O σ H) {n : Nat} {d d' : D} {u' : HO} (h : f.o[n]? = some (.box d)) (ow : ∀ B' : Addr → Prop, (∀ {vs : List V} {ds : List D}, Reps G f.pl H f.B vs ds → Reps G f.pl (upd H (f.pl.of (.ob n)) u') B' vs ds) → OwnRep G f.pl (upd H (f.pl.of (.ob n)) u') B' (f.pl.of (.ob n)) d') :
    ∃ f' : Fs G O σ (upd H (f.pl.of (.ob n)) u'), f.To f' ∧ f'.o = f.o.set n (.box d') ∧ f'.pl = f.pl ∧ f'.B = f.B := by
  have r := f.sr.obj
  have hn : n < f.o.length := (List.getElem?_eq_some_iff.mp h).1
  obtain ⟨u, hu, k1, k2, k3⟩ := box_kind (r.box n d h)
  have e := ext_updG (u' := u') hu k1 k2 k3
  have lv : ∀ k, live G (f.o.set n (.box d')) k ↔ live G f.o k := live_set h ⟨(fun ⟨_, _, z⟩ => by cases z), (fun ⟨_, _, z⟩ => by cases z)⟩
  have st := step_at (o' := f.o.set n (.box d')) (pl := f.pl) e hn lv
  have vB : Bv G O f.B0 f.R f.pl f.m (f.o.set n (.box d')) = f.B := by
    funext a
    show (f.B0 a ∨ _ ∨ Vol G (f.o.set n (.box d')) f.pl a) = (f.B0 a ∨ _ ∨ Vol G f.o f.pl a)
    rw [vol_same lv]
  have tb : ∀ a, a = f.pl.of (.ob n) → f.B a := fun a z => by rw [z]; exact Bv.vol ⟨.ob n, hn, rfl⟩
  have r' : OR G f.pl (f.o.set n (.box d')) (upd H (f.pl.of (.ob n)) u') f.B := by
    refine or_at r e hn (by rw [List.length_set]) (fun m hm => List.getElem?_set_ne (Ne.symm hm)) lv (fun a z => Bv.vol z) (fun d1 hd1 => ?_) (fun c fs q => ?_) (fun l kd q => ?_) fun d1 q => ?_
    · rw [List.getElem?_set_self hn] at hd1
      have : d' = d1 := by injection hd1 with z; injection z
      subst this
      exact ow f.B fun x => reps_gen e tb (fun _ _ z => z) x
    · rw [List.getElem?_set_self hn] at q
      cases q
    · rw [List.getElem?_set_self hn] at q
      cases q
    · rw [List.getElem?_set_self hn] at q
      cases q
  refine ⟨f.at (f.sr.step st (by rw [vB]; exact r')), ⟨rfl, rfl, rfl, st⟩, rfl, rfl, vB⟩
def Pl.new (pl : Pl) (x dx : Addr) : Pl := ⟨fun k => if k = .ob pl.n then x else if k = .od pl.n then dx else pl.of k, pl.n + 1⟩
theorem Pl.new_ob (pl : Pl) (x dx : Addr) : (pl.new x dx).of (.ob pl.n) = x := if_pos rfl
theorem Pl.new_od (pl : Pl) (x dx : Addr) : (pl.new x dx).of (.od pl.n) = dx := by
  show (if Kk.od pl.n = Kk.ob pl.n then x else if Kk.od pl.n = Kk.od pl.n then dx else pl.of (.od pl.n)) = dx
  rw [if_neg (by intro z; cases z), if_pos rfl]
theorem Pl.new_old (r : OR G pl o H B) {k : Kk} (l : live G o k) (x dx : Addr) : (pl.new x dx).of k = pl.of k := by
  have h : ∀ j, live G o (.ob j) ∨ live G o (.od j) → j < pl.n := fun j z => by
    rw [r.n]
    rcases z with z | ⟨c, fs, z⟩
    · exact z
    · exact (List.getElem?_eq_some_iff.mp z).1
  show (if k = .ob pl.n then x else if k = .od pl.n then dx else pl.of k) = _
  rw [if_neg (fun z => by subst z; exact absurd (h _ (.inl l)) (Nat.lt_irrefl _)), if_neg (fun z => by subst z; exact absurd (h _ (.inr l)) (Nat.lt_irrefl _))]
theorem live_app {b : Ob} {k : Kk} (l : live G (o ++ [b]) k) : live G o k ∨ k = .ob o.length ∨ (k = .od o.length ∧ ∃ c fs, b = .ins c fs) := by
  cases k with
  | ob j =>
    have z : j < (o ++ [b]).length := l
    rw [List.length_append] at z
    by_cases c : j < o.length
    · exact .inl c
    · exact .inr (.inl (by have : j = o.length := by simp at z; omega
                           rw [this]))
  | od j =>
    obtain ⟨c, fs, z⟩ := l
    by_cases q : j < o.length
    · rw [List.getElem?_append_left q] at z
      exact .inl ⟨c, fs, z⟩
    · rw [List.getElem?_append_right (Nat.le_of_not_lt q)] at z
      have e : j = o.length := by
        have := (List.getElem?_eq_some_iff.mp z).1
        simp at this
        omega
      subst e
      simp at z
      exact .inr (.inr ⟨rfl, c, fs, z⟩)
  | fl a b => exact l.elim
  | tb i => exact .inl l
theorem live_more {b : Ob} {k : Kk} (l : live G o k) : live G (o ++ [b]) k := by
  cases k with
  | ob j => show j < (o ++ [b]).length; rw [List.length_append]; exact Nat.lt_of_lt_of_le (show j < o.length from l) (Nat.le_add_right _ _)
  | od j =>
    obtain ⟨c, fs, z⟩ := l
    exact ⟨c, fs, by rw [List.getElem?_append_left (List.getElem?_eq_some_iff.mp z).1]; exact z⟩
  | fl a b => exact l.elim
  | tb i => exact l
theorem at_more {o : Objs} {b : Ob} : (o ++ [b])[o.length]? = some b := by simp
theorem or_new {b : Ob} {x dx : Addr} {B' : Addr → Prop} (r : OR G pl o H B) (hb : ∀ a, B' a → B a) (hx : H x ≠ none) (vx : ¬ Vol G o pl x) (hdx : (∃ c fs, b = .ins c fs) → H dx ≠ none ∧ ¬ Vol G o pl dx ∧ dx ≠ x)
    (nb : ∀ d, b = .box d → OwnRep G pl H B x d) (ni : ∀ c fs, b = .ins c fs → fs = [] ∧ H x = some (.ins (G.insA c) dx []) ∧ H dx = some (.own x))
    (nn : ∀ l kd, b = .nd l kd → NdRep G pl H B x l kd := by intro _ _ z; cases z) (nl : ∀ d, b = .lk d → Rep G pl H B (.ref x) d := by intro _ z; cases z) : OR G (pl.new x dx) (o ++ [b]) H B' := by
  have old : ∀ {k}, live G o k → (pl.new x dx).of k = pl.of k := fun l => Pl.new_old r l x dx
  have oeq : pl.n = o.length := r.n
  have e1 : (pl.new x dx).of (.ob o.length) = x := by rw [← oeq]; exact pl.new_ob x dx
  have e2 : (pl.new x dx).of (.od o.length) = dx := by rw [← oeq]; exact pl.new_od x dx
  have rep : ∀ {v : V} {d : D}, Rep G pl H B v d → Rep G (pl.new x dx) H B' v d := fun q => Rep.go (fun _ _ z => z) (fun _ _ _ z => z) (fun a u z h => ⟨fun y => z (hb a y), h⟩) (fun a C z h => ⟨fun y => z (hb a y), h⟩) (fun k hk => ⟨old (show live G o (.ob k) from by show k < o.length; rw [← oeq]; exact hk), Nat.lt_succ_of_lt hk⟩) q
  have reps : ∀ {v : List V} {d : List D}, Reps G pl H B v d → Reps G (pl.new x dx) H B' v d := fun q => Reps.go (fun _ _ z => z) (fun _ _ _ z => z) (fun a u z h => ⟨fun y => z (hb a y), h⟩) (fun a C z h => ⟨fun y => z (hb a y), h⟩) (fun k hk => ⟨old (show live G o (.ob k) from by show k < o.length; rw [← oeq]; exact hk), Nat.lt_succ_of_lt hk⟩) q
  have own : ∀ {p : Addr} {d : D}, OwnRep G pl H B p d → OwnRep G (pl.new x dx) H B' p d := fun {p d} q => by
    cases d with
    | lst ds =>
      obtain ⟨vs, h, rs⟩ := q
      exact ⟨vs, h, reps rs⟩
    | dic t kd =>
      obtain ⟨u, ks, ws, ds, h, o, rs, q⟩ := q
      exact ⟨u, ks, ws, ds, h, o, reps rs, q⟩
    | _ => exact q.elim
  refine ⟨by show pl.n + 1 = _; rw [List.length_append, oeq]; rfl, fun k k' l l' q => ?_, fun k l => ?_, fun n d hn => ?_, fun n c fs hn => ?_, fun i p hp => ?_, r.tabs, fun n l kd hn => ?_, fun n d hn => ?_⟩
  · rcases live_app l with l | rfl | ⟨rfl, hi⟩ <;> rcases live_app l' with l' | rfl | ⟨rfl, hi'⟩
    · rw [old l, old l'] at q; exact r.inj k k' l l' q
    · rw [old l, e1] at q; exact absurd ⟨k, l, q⟩ vx
    · rw [old l, e2] at q; exact absurd ⟨k, l, q⟩ (hdx hi').2.1
    · rw [old l', e1] at q; exact absurd ⟨k', l', q.symm⟩ vx
    · rfl
    · rw [e1, e2] at q; exact absurd q.symm (hdx hi').2.2
    · rw [old l', e2] at q; exact absurd ⟨k', l', q.symm⟩ (hdx hi).2.1
    · rw [e1, e2] at q; exact absurd q (hdx hi).2.2
    · rfl
  · rcases live_app l with l | rfl | ⟨rfl, hi⟩
    · rw [old l]; exact r.there k l
    · rw [e1]; exact hx
    · rw [e2]; exact (hdx hi).1
  · by_cases c : n < o.length
    · rw [List.getElem?_append_left c] at hn
      rw [old (show live G o (.ob n) from c)]
      exact own (r.box n d hn)
    · have l := (List.getElem?_eq_some_iff.mp hn).1
      have : n = o.length := by rw [List.length_append] at l; simp at l; omega
      subst this
      rw [at_more] at hn
      rw [e1]
      exact own (nb d (Option.some.inj hn))
  · by_cases c1 : n < o.length
    · rw [List.getElem?_append_left c1] at hn
      rw [old (show live G o (.ob n) from c1), old (show live G o (.od n) from ⟨c, fs, hn⟩)]
      obtain ⟨vs, h1, h2, h3, h4⟩ := r.ins n c fs hn
      exact ⟨vs, h1, h2, fun f d hf => let ⟨v, q1, q2⟩ := h3 f d hf; ⟨v, q1, rep q2⟩, h4⟩
    · have l := (List.getElem?_eq_some_iff.mp hn).1
      have : n = o.length := by rw [List.length_append] at l; simp at l; omega
      subst this
      rw [at_more] at hn
      obtain ⟨rfl, h1, h2⟩ := ni c fs (Option.some.inj hn)
      rw [e1, e2]
      exact ⟨[], h1, h2, (fun f d z => by cases z), (fun f _ => rfl), rfl⟩
  · rw [old (show live G o (.tb i) from (List.getElem?_eq_some_iff.mp hp).1)]
    exact r.tbl i p hp
  · by_cases c : n < o.length
    · rw [List.getElem?_append_left c] at hn
      rw [old (show live G o (.ob n) from c)]
      exact (r.nd n l kd hn).imp (fun _ _ z => z) (fun _ _ z => z) reps
    · have ll := (List.getElem?_eq_some_iff.mp hn).1
      have : n = o.length := by rw [List.length_append] at ll; simp at ll; omega
      subst this
      rw [at_more] at hn
      rw [e1]
      exact (nn l kd (Option.some.inj hn)).imp (fun _ _ z => z) (fun _ _ z => z) reps
  · by_cases c : n < o.length
    · rw [List.getElem?_append_left c] at hn
      rw [old (show live G o (.ob n) from c)]
      exact rep (r.lk n d hn)
    · have ll := (List.getElem?_eq_some_iff.mp hn).1
      have : n = o.length := by rw [List.length_append] at ll; simp at ll; omega
      subst this
      rw [at_more] at hn
      rw [e1]
      exact rep (nl d (Option.some.inj hn))
theorem vol_new {b : Ob} {x dx : Addr} (r : OR G pl o H B) {a : Addr} (v : Vol G (o ++ [b]) (pl.new x dx) a) : Vol G o pl a ∨ a = x ∨ (a = dx ∧ ∃ c fs, b = .ins c fs) := by
  obtain ⟨k, l, e⟩ := v
  rcases live_app l with l | rfl | ⟨rfl, hi⟩
  · exact .inl ⟨k, l, by rw [← e]; exact (Pl.new_old r l x dx).symm⟩
  · rw [← r.n, Pl.new_ob] at e; exact .inr (.inl e.symm)
  · rw [← r.n, Pl.new_od] at e; exact .inr (.inr ⟨e.symm, hi⟩)
theorem step_new {b : Ob} {x dx : Addr} {o0 : Objs} {pl0 : Pl} {H0 : Hp} (r : OR G pl o H B) (s : Step G o0 o pl0 pl H0 H) (hx : H0 x = none) (hdx : (∃ c fs, b = .ins c fs) → H0 dx = none) : Step G o0 (o ++ [b]) pl0 (pl.new x dx) H0 H where
  ext := s.ext
  agree := fun k l => ⟨(Pl.new_old r (s.agree k l).2 x dx).trans (s.agree k l).1, live_more (s.agree k l).2⟩
  fresh := fun k l n => by
    rcases live_app l with l | rfl | ⟨rfl, hi⟩
    · rw [Pl.new_old r l]; exact s.fresh k l n
    · rw [← r.n, Pl.new_ob]; exact hx
    · rw [← r.n, Pl.new_od]; exact hdx hi
  n := Nat.le_succ_of_le s.n
end
end WB
namespace WB
open PySem PySem.Spec PyProof.Rows L2
section
variable {G : Glob} {pl : Pl} {o : Objs} {H : Hp} {B : Addr → Prop} {α : Type} {P : α → Objs → Prop} {E : Nat → Objs → Prop}
theorem RT.obj {v : V} {n : Nat} (h : RT G pl o H B v (.obj n)) : v = .ref (pl.of (.ob n)) ∧ n < pl.n := by
  rcases h with h | ⟨p, _, _, h⟩
  · cases h with
    | obj n h => exact ⟨rfl, h⟩
  · exact h.elim
theorem putA_lookup (k j : Nat) (d : D) : ∀ fs : List (Nat × D), (putA k d fs).lookup j = if j = k then some d else fs.lookup j
  | [] => by
    show (match j == k with | true => some d | false => none) = _
    by_cases z : j = k
    · rw [if_pos z]; simp [z]
    · rw [if_neg z, beq_eq_false_iff_ne.mpr z]; rfl
  | (i, e) :: r => by
    unfold putA
    by_cases z : i = k
    · rw [if_pos z]
      show (match j == i with | true => some d | false => r.lookup j) = if j = k then some d else (match j == i with | true => some e | false => r.lookup j)
      by_cases y : j = i
      · rw [if_pos (y.trans z)]; simp [y]
      · rw [if_neg (fun q => y (q.trans z.symm)), beq_eq_false_iff_ne.mpr y]
    · rw [if_neg z]
      show (match j == i with | true => some e | false => (putA k d r).lookup j) = if j = k then some d else (match j == i with | true => some e | false => r.lookup j)
      by_cases y : j = i
      · rw [if_neg (fun q => z (y.symm.trans q))]; simp [y]
      · simp only [beq_eq_false_iff_ne.mpr y]
        exact putA_lookup k j d r
theorem putA_len (k : Nat) (d : D) : ∀ fs : List (Nat × D), (putA k d fs).length = if fs.lookup k = none then fs.length + 1 else fs.length
  | [] => rfl
  | (i, e) :: r => by
    unfold putA
    show _ = if (match k == i with | true => some e | false => r.lookup k) = none then _ else _
    by_cases z : i = k
    · rw [if_pos z]; simp [z]
    · rw [if_neg z]
      have : (k == i) = false := beq_eq_false_iff_ne.mpr fun q => z q.symm
      rw [this, List.length_cons, putA_len k d r]
      dsimp only
      split <;> simp
theorem putF_len (f : PySem.Str) (v : V) : ∀ fs : List (PySem.Str × V), (putF f v fs).length = if fs.lookup f = none then fs.length + 1 else fs.length
  | [] => rfl
  | (g, x) :: r => by
    rw [show putF f v ((g, x) :: r) = (if g = f then (g, v) :: r else (g, x) :: putF f v r) from rfl]
    show _ = if (match f == g with | true => some x | false => r.lookup f) = none then _ else _
    by_cases z : g = f
    · rw [if_pos z]; simp [z]
    · rw [if_neg z]
      have : (f == g) = false := beq_eq_false_iff_ne.mpr fun q => z q.symm
      rw [this, List.length_cons, putF_len f v r]
      dsimp only
      split <;> simp
end
section
variable {G : Glob} {O : List Nat} {W : WX} {Φ : Fns} {F : Nat} {X : Cx} {σ : L2.St} {H H' : Hp} {pos : Pos} {a e : Expr} {es : List Expr} {ca ce : E} {ces : List E} {sa fa se fe : Bool}
theorem Fs.fset (f : Fs G O σ H) {n c k : Nat} {fs : List (Nat × D)} {vs : List (PySem.Str × V)} {v : V} {d : D} (hk : k < G.fnames.length) (h : f.o[n]? = some (.ins c fs)) (hu : H (f.pl.of (.ob n)) = some (.ins (G.insA c) (f.pl.of (.od n)) vs)) (r : Rep G f.pl H f.B v d) :
    ∃ f' : Fs G O σ (upd H (f.pl.of (.ob n)) (.ins (G.insA c) (f.pl.of (.od n)) (putF (G.fname k) v vs))), f.To f' ∧ f'.o = f.o.set n (.ins c (putA k d fs)) := by
  have hn : n < f.o.length := (List.getElem?_eq_some_iff.mp h).1
  have e := ext_updG (u' := .ins (G.insA c) (f.pl.of (.od n)) (putF (G.fname k) v vs)) hu (fun _ z => by cases z) (fun _ _ z => by cases z) (fun _ z => by cases z)
  have lv : ∀ j, live G (f.o.set n (.ins c (putA k d fs))) j ↔ live G f.o j := live_set h ⟨fun _ => ⟨_, _, rfl⟩, fun _ => ⟨_, _, rfl⟩⟩
  have st := step_at (o' := f.o.set n (.ins c (putA k d fs))) (pl := f.pl) e hn lv
  have vB : Bv G O f.B0 f.R f.pl f.m (f.o.set n (.ins c (putA k d fs))) = f.B := by
    funext a
    show (f.B0 a ∨ _ ∨ Vol G (f.o.set n (.ins c (putA k d fs))) f.pl a) = (f.B0 a ∨ _ ∨ Vol G f.o f.pl a)
    rw [vol_same lv]
  have tb : ∀ a, a = f.pl.of (.ob n) → f.B a := fun a z => by rw [z]; exact Bv.vol ⟨.ob n, hn, rfl⟩
  have rep : ∀ {v : V} {d : D}, Rep G f.pl H f.B v d → Rep G f.pl (upd H (f.pl.of (.ob n)) (.ins (G.insA c) (f.pl.of (.od n)) (putF (G.fname k) v vs))) f.B v d := fun x => by
    cases reps_gen (H' := upd H (f.pl.of (.ob n)) _) (ext_updG hu (fun _ z => by cases z) (fun _ _ z => by cases z) (fun _ z => by cases z)) tb (fun _ _ z => z) (.cons x .nil) with
    | cons r _ => exact r
  obtain ⟨vs', q1, q2, q3, q4, q5⟩ := f.sr.obj.ins n c fs h
  rw [hu] at q1
  have ev : vs = vs' := by injection q1 with z; injection z
  subst ev
  have r' : OR G f.pl (f.o.set n (.ins c (putA k d fs))) (upd H (f.pl.of (.ob n)) (.ins (G.insA c) (f.pl.of (.od n)) (putF (G.fname k) v vs))) f.B := by
    refine or_at f.sr.obj e hn (by rw [List.length_set]) (fun m hm => List.getElem?_set_ne (Ne.symm hm)) lv (fun a z => Bv.vol z) (fun d1 hd1 => ?_) (fun c1 fs1 q => ?_) (fun l kd q => by rw [List.getElem?_set_self hn] at q; cases q) (fun d1 q => by rw [List.getElem?_set_self hn] at q; cases q)
    · rw [List.getElem?_set_self hn] at hd1
      cases hd1
    · rw [List.getElem?_set_self hn] at q
      cases q
      refine ⟨putF (G.fname k) v vs, upd_same, q2, fun j y hj => ?_, fun j hj => ?_, ?_⟩
      · rw [putA_lookup] at hj
        rw [lookup_putF]
        by_cases z : j = k
        · rw [if_pos z] at hj
          cases hj
          exact ⟨v, by rw [if_pos (by rw [z])], reps_gen e tb (fun _ _ z => z) (.cons r .nil) |> fun w => by cases w with | cons r _ => exact r⟩
        · rw [if_neg z] at hj
          obtain ⟨w, w1, w2⟩ := q3 j y hj
          exact ⟨w, by rw [if_neg (fun q => z (G.inj hk q))]; exact w1, reps_gen e tb (fun _ _ z => z) (.cons w2 .nil) |> fun w => by cases w with | cons r _ => exact r⟩
      · rw [putA_lookup] at hj
        rw [lookup_putF]
        by_cases z : j = k
        · rw [if_pos z] at hj; cases hj
        · rw [if_neg z] at hj
          rw [if_neg (fun q => z (G.inj hk q))]
          exact q4 j hj
      · rw [putF_len, putA_len, q5]
        cases y : fs.lookup k with
        | none => rw [q4 k y]; rfl
        | some w =>
          obtain ⟨w', w1, _⟩ := q3 k w y
          rw [w1]; rfl
  exact ⟨f.at (f.sr.step st (by rw [vB]; exact r')), ⟨rfl, rfl, rfl, st⟩, rfl⟩
section
variable {CX : CXT} {k : Nat} {f C : Addr} {fd : FuncData} {ps : List PySem.Str} {sp : Sp} {E : L2.St → XK} {x m : PySem.Str} {p apos : Pos} {ob : Expr} {ta : TE} {t : TA}
structure MFn (X : Cx) (CX : CXT) (k : Nat) (C : Addr) (m : PySem.Str) (f : Addr) (fd : FuncData) (ps : List PySem.Str) (sp : Sp) (E : L2.St → XK) : Prop where
  c : Cls X.K C
  m : Meth X.K C m f
  ok : FnOk X.prog X.w X.K X.mg X.base CX k f fd ps sp
  room : Room k X.A
  b : Binds X.K fd ps []
  pass : ∀ σ, PassesAt CX X σ (E σ)
end
structure Mk' (G : Glob) (P : Program) (w : World) (K : PySem.W.Frag) (mg : PySem.Str → Option Value) (base : Heap) (lv : Nat) (c : Nat) (m : PySem.Str) (n : Nat) (den : List D → M D) : Prop where
  ex : ∃ (fa : Addr) (fd : FuncData) (ps : List PySem.Str), FnOk P w K mg base (L2.CX P w) lv fa fd ps (spD G n den) ∧ PySem.W.findIn K (.ref (G.insA c)) m = some (some (.ref fa)) ∧ PySem.W.isFn K (.ref fa) = true ∧ PySem.W.keepIn K (.ref fa) = true ∧ Binds K fd ps []
structure Mc (G : Glob) (P : Program) (w : World) (K : PySem.W.Frag) (mg : PySem.Str → Option Value) (base : Heap) (A : Around) (c : Nat) (m : PySem.Str) (n : Nat) (den : List D → M D) : Prop where
  ex : ∃ (lv : Nat) (fa : Addr) (fd : FuncData) (ps : List PySem.Str), FnOk P w K mg base (L2.CX P w) lv fa fd ps (spD G n den) ∧ Room (lv + 1) A ∧ PySem.W.findIn K (.ref (G.insA c)) m = some (some (.ref fa)) ∧ PySem.W.isFn K (.ref fa) = true ∧ PySem.W.keepIn K (.ref fa) = true ∧ Binds K fd ps []
theorem Mk'.at {P : Program} {w : World} {K : PySem.W.Frag} {mg : PySem.Str → Option Value} {base : Heap} {A : Around} {lv c n k : Nat} {m : PySem.Str} {den : List D → M D} (F : Mk' G P w K mg base lv c m n den) (hr : Room k A) (h : lv + 1 ≤ k := by decide) : Mc G P w K mg base A c m n den := by
  obtain ⟨fa, fd, ps, a, b⟩ := F.ex
  exact ⟨lv, fa, fd, ps, a, hr.mono h, b⟩
end
end WB
namespace WB
open PySem PySem.Spec PyProof.Rows L2
section
variable {G : Glob} {O : List Nat} {W : WX} {Φ : Fns} {F : Nat} {X : Cx} {σ : L2.St} {H H' : Hp} {pos : Pos} {a b e i : Expr} {es : List Expr} {ca cb ce ci : E} {ces : List E} {sa fa sb fb se fe si fi sf : Bool}
theorem e_box (h : PE X e (TEv G O W Φ ce se true)) : PE X e (TEv G O W Φ (.box ce) true false) :=
  PE.imp h fun σ H Q ⟨f, hh⟩ => by
    refine TEv.then f hh fun v H1 f1 d t x h1 => ?_
    unfold Post boxM at h1
    by_cases c : isL d = true
    · rw [if_pos c] at h1
      have k : KE G O f true false Q (.obj f1.o.length) (f1.o ++ [.box d]) := h1
      obtain ⟨p, e1, e2, e3, ow, r1⟩ := x.fr rfl c
      have eb : ∀ y, Bv G O f.B0 f.R f1.pl f.m f1.o y → f1.B y := fun y z => by
        show Bv G O f1.B0 f1.R f1.pl f1.m f1.o y
        rw [t.b0, t.r, t.m]; exact z
      have st := step_new (b := .box d) (x := p) (dx := 0) f1.sr.obj t.st e2 (fun ⟨_, _, z⟩ => by cases z)
      have hbB : ∀ y, Bv G O f.B0 f.R (f1.pl.new p 0) f.m (f1.o ++ [.box d]) y → f1.B y ∨ y = p := fun y z => by
        rcases z with z | z | z
        · exact .inl (eb y (.inl z))
        · exact .inl (eb y (.inr (.inl z)))
        · rcases vol_new f1.sr.obj z with z | z | ⟨_, _, _, z⟩
          · exact .inl (Bv.vol z)
          · exact .inr z
          · cases z
      have r2 : OR G (f1.pl.new p 0) (f1.o ++ [.box d]) H1 (Bv G O f.B0 f.R (f1.pl.new p 0) f.m (f1.o ++ [.box d])) :=
        or_new r1 hbB ow.some (fun z => e3 (Bv.vol z)) (fun ⟨_, _, z⟩ => by cases z) (fun d' z => by cases z; exact ow) (fun _ _ z => by cases z)
      have no : f1.pl.n = f1.o.length := f1.sr.obj.n
      have rv : Rep G (f1.pl.new p 0) H1 (Bv G O f.B0 f.R (f1.pl.new p 0) f.m (f1.o ++ [.box d])) v (.obj f1.o.length) := by
        have := Rep.obj (G := G) (pl := f1.pl.new p 0) (H := H1) (B := Bv G O f.B0 f.R (f1.pl.new p 0) f.m (f1.o ++ [.box d])) f1.o.length (by show f1.o.length < f1.pl.n + 1; omega)
        have ee : (f1.pl.new p 0).of (.ob f1.o.length) = p := by rw [← no]; exact f1.pl.new_ob p 0
        rw [ee, ← e1] at this
        exact this
      exact k v H1 (f.at (f.sr.step st r2)) ⟨rfl, rfl, rfl, st⟩ rfl ⟨.inl rv, fun _ => rv, nofun⟩
    · rw [if_neg c] at h1; exact h1.elim
def Der (o : Objs) (d d' : D) : Prop := (d = d' ∧ ∀ n, d ≠ .obj n) ∨ ∃ n, d = .obj n ∧ o[n]? = some (.box d')
theorem post_der {α : Type} {o : Objs} {d : D} {k : D → M α} {P : α → Objs → Prop} {E : Nat → Objs → Prop} (h : Post (derM d >>= k) o P E) : ∃ d', Der o d d' ∧ Post (k d') o P E := by
  have h' := Post.bind.mp h
  cases d with
  | obj n =>
    unfold Post derM at h'
    dsimp only at h'
    cases q : o[n]? with
    | none => rw [q] at h'; exact h'.elim
    | some y =>
      rw [q] at h'
      cases y with
      | box d' => exact ⟨d', .inr ⟨n, rfl, q⟩, h'⟩
      | ins c fs => exact h'.elim
      | nd _ _ => exact h'.elim
      | lk _ => exact h'.elim
  | _ => exact ⟨_, .inl ⟨rfl, fun n z => by cases z⟩, h'⟩
theorem live_nil {pl : Pl} {o : Objs} {k : Kk} (l : live G [] k) : live G o k ∧ ∃ i, k = .tb i := by
  cases k with
  | ob n => exact absurd (show n < 0 from l) (Nat.not_lt_zero n)
  | od n => obtain ⟨c, fs, q⟩ := l; cases q
  | fl n f => exact l.elim
  | tb i => exact ⟨l, i, rfl⟩
theorem RT.nil_of {pl : Pl} {o : Objs} {B : Addr → Prop} {v : V} {d : D} (h : RT G pl o H B v d) : RT G pl [] H B v d := by
  rcases h with h | ⟨p, e, nv, ow⟩
  · exact .inl h
  · exact .inr ⟨p, e, fun ⟨k, l, q⟩ => nv ⟨k, (live_nil (pl := pl) l).1, q⟩, ow⟩
theorem RT.der {f : Fs G O σ H} {v : V} {d d' : D} (h : RT G f.pl f.o H f.B v d) (q : Der f.o d d') : RT G f.pl [] H f.B v d' := by
  rcases q with ⟨rfl, _⟩ | ⟨n, rfl, hn⟩
  · exact h.nil_of
  · have r := f.sr.obj
    refine .inr ⟨_, h.obj.1, fun ⟨k, l, q⟩ => ?_, r.box n d' hn⟩
    obtain ⟨l', i, rfl⟩ := live_nil (pl := f.pl) (o := f.o) l
    have := r.inj _ (.ob n) l' (List.getElem?_eq_some_iff.mp hn).1 q
    cases this
theorem e_bidx (xo : XO G W X) (ha : PE X a (TEv G O W Φ ca sa fa)) (hb : PE X b (TEv G O W Φ cb sb fb)) (hs : PlainIx b := by intro _ _; rfl) : PE X (.Subscript a b pos) (TEv G O W Φ (.bidx ca cb) true false) :=
  PE.imp (pe_ix (ok_ix xo.K) ha hb hs) fun _ _ Q ⟨f, h⟩ => by
    refine TEv.then f h fun v H1 f1 d t x h1 => ?_
    rw [← t.m] at h1
    refine TEv.then f1 h1 fun y H2 f2 d2 t2 x2 h2 => ?_
    obtain ⟨d', q1, h3⟩ := post_der h2
    obtain ⟨z, e, k⟩ := (cm_idxM d' d2).post h3
    exact ⟨f2.pl, [], f2.B, d', d2, fun a => f2.sr.some, (t2.rt x.rt).der q1, x2.rt.nil_of, by rw [e]; exact fun v r => k v H2 f2 (t.trans t2) rfl ⟨.inl r, fun _ => r, nofun⟩⟩
end
end WB
namespace WB
open PySem PySem.Spec PyProof.Rows L2
section
variable {G : Glob} {O : List Nat} {W : WX} {Φ : Fns} {F : Nat} {X : Cx} {σ : L2.St} {H H' : Hp} {pos : Pos} {a b e i : Expr} {es : List Expr} {ca cb ce ci : E} {ces : List E} {sa fa sb fb se fe si fi sf : Bool}
theorem post_bup {o : Objs} {g : D → M (D × D)} {d : D} {P : D → Objs → Prop} {E : Nat → Objs → Prop} (hg : ∀ d, Cm (g d)) (h : Post (bupM g d) o P E) : ∃ n d' p, d = .obj n ∧ o[n]? = some (.box d') ∧ g d' = pure p ∧ P p.1 (o.set n (.box p.2)) := by
  cases d with
  | obj n =>
    unfold Post bupM at h
    dsimp only at h
    cases q : o[n]? with
    | none => rw [q] at h; exact h.elim
    | some y =>
      rw [q] at h
      cases y with
      | ins c fs => exact h.elim
      | nd _ _ => exact h.elim
      | lk _ => exact h.elim
      | box d' =>
        dsimp only at h
        rcases hg d' with ⟨p, e⟩ | e
        · rw [e] at h; exact ⟨n, d', p, rfl, q, e, h⟩
        · rw [e] at h; exact h.elim
  | _ => exact h.elim
theorem pure_inj {α : Type} {a b : α} (h : (pure a : M α) = pure b) : a = b := by
  have := congrFun h []
  injection this
theorem fail_pure {α : Type} {b : α} (h : (M.fail : M α) = pure b) : False := by
  have := congrFun h []
  cases this
theorem box_lst {f : Fs G O σ H} {n : Nat} {ds : List D} (h : f.o[n]? = some (.box (.lst ds))) : ∃ vs, H (f.pl.of (.ob n)) = some (.lst vs) ∧ Reps G f.pl H f.B vs ds := f.sr.obj.box n _ h
theorem Fs.boxL (f : Fs G O σ H) {n : Nat} {d : D} {vs : List V} {ds : List D} (h : f.o[n]? = some (.box d)) (r : Reps G f.pl H f.B vs ds) : ∃ f' : Fs G O σ (upd H (f.pl.of (.ob n)) (.lst vs)), f.To f' ∧ f'.o = f.o.set n (.box (.lst ds)) ∧ f'.pl = f.pl ∧ f'.B = f.B :=
  f.boxed h fun B' tr => ⟨vs, upd_same, tr r⟩
theorem cm_setL (x k v : D) : Cm (setLM x k v) := by
  unfold setLM
  repeat' split
  all_goals first | exact .pure | exact .fail
theorem s_bset {v : Expr} {cv : E} {fv : Bool} {pos' : Pos} (xo : XO G W X) (ha : PE X a (TEv G O W Φ ca sa fa)) (hi : PE X i (TEv G O W Φ ci si fi)) (hv : PE X v (TEv G O W Φ cv true fv))
    (has : ∀ w, assign (.Subscript a i pos') X.env w = (do
      let ov ← holding [w] (eval a X.env)
      let iv ← holding [w, ov] (eval i X.env)
      standAt pos'
      holding [w, ov, iv] (setItem ov iv w)
      release [w, ov, iv] []) := by intro _; rfl)
    (hs : swapsWithSole [.Subscript a i pos'] v pos.line X.env = pure false := by rfl) (hw : swappedStores [.Subscript a i pos'] v X.env = pure none := by rfl)
    (h1 : (assignEach [.Subscript a i pos'] X.env).map (·.2) = [assign (.Subscript a i pos') X.env] := by rfl) : PS X (.Assign [.Subscript a i pos'] v pos) (TSv G O W Φ F (.bset ca ci cv)) :=
  PS.imp (ps_asg hv (pg_sub ha hi set_list has) hs hw h1) fun D σ H ⟨f, h⟩ => by
    refine TEv.thenS f h fun y H1 f1 d t x h1 => ?_
    rw [← t.m] at h1
    refine TEv.thenS f1 h1 fun w H2 f2 d2 t2 x2 h2 => ?_
    rw [← t2.m] at h2
    refine TEv.thenS f2 h2 fun z H3 f3 d3 t3 x3 h3 => ?_
    obtain ⟨n, d4, p, e1, hn, eg, hk⟩ := post_bup (fun d' => (cm_setL d' d3 d).bind fun _ => .pure) (Post.bind.mp h3)
    subst e1
    cases d4 with
    | lst ds =>
      cases d3 with
      | int k =>
        have eg' : (match ixD ds.length k with | some j => pure (WB.D.lst (ds.set j d)) | none => M.fail) >>= (fun z => pure (WB.D.non, z)) = (pure p : M (WB.D × WB.D)) := eg
        cases q : ixD ds.length k with
        | none => rw [q] at eg'; exact (fail_pure eg').elim
        | some j =>
          rw [q] at eg'
          have := pure_inj eg'
          subst this
          obtain ⟨us, hp, rs⟩ := box_lst hn
          have rv := t3.rep (t2.rep (x.sf rfl))
          obtain ⟨f4, t4, eo, _, _⟩ := f3.boxL hn (rs.set rv j)
          have ix : ixN us.length k = some j := by
            rw [rs.length]
            unfold ixD at q
            unfold ixN
            exact q
          refine ⟨f3.pl.of (.ob n), us, k, j, (t3.rt x2.rt).obj.1, x3.rt.int, hp, ix, ?_⟩
          refine (show KS G O f D (.next f2.m) (f3.o.set n (.box (.lst (ds.set j d)))) from hk) σ _ f4 ((t.trans (t2.trans t3)).trans t4).go eo ?_
          rw [t4.m, t3.m]
      | _ => exact (fail_pure eg).elim
    | _ => exact (fail_pure eg).elim
end
end WB
namespace WB
open PySem PySem.Spec PyProof.Rows L2
section
variable {X : Cx}
end
section
variable {G : Glob} {O : List Nat} {W : WX} {Φ : Fns} {F : Nat} {X : Cx} {σ : L2.St} {H H' : Hp} {pos : Pos} {a b e i tg : Expr} {es : List Expr} {ca cb ce ci c : E} {ces : List E} {sa fa sb fb se fe si fi sf fr : Bool}
end
end WB
namespace WB
open PySem PySem.Spec PyProof.Rows L2
def FNL : List PySem.Str := [("own" : PySem.Str), ("seen" : PySem.Str), ("left" : PySem.Str), ("read" : PySem.Str), ("places" : PySem.Str), ("now" : PySem.Str), ("past" : PySem.Str), ("later" : PySem.Str), ("lines" : PySem.Str), ("stamps" : PySem.Str), ("ticks" : PySem.Str), ("letters" : PySem.Str), ("hands" : PySem.Str), ("put" : PySem.Str), ("start" : PySem.Str), ("common" : PySem.Str), ("part" : PySem.Str), ("lead" : PySem.Str), ("found" : PySem.Str), ("text" : PySem.Str), ("add" : PySem.Str), ("take_back" : PySem.Str), ("words" : PySem.Str), ("how_many" : PySem.Str), ("nexts" : PySem.Str), ("sure" : PySem.Str), ("may_end" : PySem.Str), ("twin" : PySem.Str), ("go" : PySem.Str), ("look_line" : PySem.Str), ("look_here" : PySem.Str), ("with_line" : PySem.Str), ("change" : PySem.Str), ("drop" : PySem.Str), ("turn" : PySem.Str), ("set_row" : PySem.Str), ("move_row" : PySem.Str), ("table" : PySem.Str), ("numbers" : PySem.Str), ("next_number" : PySem.Str), ("line" : PySem.Str), ("same" : PySem.Str), ("is_unsure" : PySem.Str), ("unsure" : PySem.Str), ("find" : PySem.Str), ("back" : PySem.Str), ("forth" : PySem.Str), ("deeds" : PySem.Str), ("takes" : PySem.Str), ("look" : PySem.Str), ("tell" : PySem.Str), ("say" : PySem.Str), ("row" : PySem.Str), ("hear" : PySem.Str), ("clock" : PySem.Str), ("waits" : PySem.Str), ("are_alike" : PySem.Str)]
theorem FNL_nd : FNL.Nodup := by decide +kernel
theorem FNL_ne : ("" : PySem.Str) ∉ FNL := by decide +kernel
def insN : Nat → PySem.Str
  | 0 => "Finder"
  | 1 => "Reader"
  | 2 => "Desk"
  | 3 => "Hand"
  | _ => "Twins"
section
variable {G : Glob} {P : Program} {w : World} {K : PySem.W.Frag} {mg : PySem.Str → Option Value} {base : Heap} {k : Nat} {x : PySem.Str}
end
end WB
namespace WB
open PySem PySem.W PySem.Spec PyProof.Rows L2
section
variable {prog : Program} {w : World} {A : Around} {E : Value → Shared → Prop} {s : Shared} {it d a : Addr} {f : Bool} {i n ep : Nat} {ok ov key val : Value}
end
def PairAt (it d : Addr) (n ep i : Nat) (h : Heap) : Prop := (∃ ok ov, IsItemIter h it d i n ep ok ov) ∨ ∃ ok ov a f, KdxIt h it d i n ep ok ov a f
theorem PairAt.obj {it d : Addr} {n ep i : Nat} {h : Heap} (z : PairAt it d n ep i h) : ∃ vs, h.get? it = some { cls := .type "dict_itemiterator", data := .fields vs } := by
  rcases z with ⟨_, _, z⟩ | ⟨_, _, _, _, z⟩ <;> exact ⟨_, z⟩
section
variable {X : Cx} {x : PySem.Str} {px apos cpos : Pos} {e : Expr} {td : TE}
end
section
variable {G : Glob} {O : List Nat} {W : WX} {Φ : Fns} {X : Cx} {σ : L2.St} {H : Hp} {x : PySem.Str} {px ap pos : Pos} {e : Expr} {c : E} {fr : Bool}
end
end WB
namespace WB
open PySem PySem.Spec PyProof.Rows L2
section
variable {G : Glob} {O : List Nat} {W : WX} {Φ : Fns} {F : Nat} {X : Cx} {σ : L2.St} {H H1 : Hp} {pos : Pos} {tg : Expr}
end
end WB
namespace WB
open PySem PySem.Spec PyProof.Rows L2
section
variable {G : Glob} {O : List Nat} {W : WX} {Φ : Fns} {X : Cx} {e : Expr} {ce : E} {se fe : Bool} {k : Nat} {p1 p2 p3 pos : Pos}
end
end WB
namespace WB
open PySem PySem.Spec PyProof.Rows L2
section
variable {G : Glob} {O : List Nat} {W : WX} {Φ : Fns} {X : Cx} {e : Expr} {ce : E} {se fe : Bool} {k k2 : Nat} {p1 p2 p3 p4 p5 pos : Pos}
end
end WB
namespace WB
open PySem PySem.Spec PyProof.Rows L2
section
variable {G : Glob} {X : Cx}
end
end WB
namespace WB
open PySem PySem.Spec PyProof.Rows L2
section
variable {G : Glob} {O : List Nat} {W : WX} {Φ : Fns} {F : Nat} {X : Cx} {e : Expr} {c : E} {fr : Bool} {pos p1 px : Pos}
end
end WB
namespace WB
open PySem PySem.Spec PyProof.Rows L2
section
variable {G : Glob} {O : List Nat} {W : WX} {Φ : Fns} {F : Nat} {X : Cx} {σ : L2.St} {H H1 : Hp} {a b i e tg : Expr} {ca cb ci c : E} {sa fa sb fb si fi sf fr : Bool} {pos : Pos}
end
end WB
namespace WB
open PySem PySem.Spec PyProof.Rows L2
section
variable {G : Glob} {O : List Nat} {W : WX} {Φ : Fns} {F : Nat} {X : Cx} {σ : L2.St} {H H1 : Hp} {pos : Pos} {tg e : Expr} {ca : E} {se fr sf : Bool}
end
end WB
namespace WB
open PySem PySem.Spec PyProof.Rows L2
section
variable {P : Program} {w : World} {A : Around} {E : Value → Shared → Prop} {s : Shared} {a : Addr}
end
section
variable {X : Cx}
end
section
variable {G : Glob} {O : List Nat} {W : WX} {Φ : Fns} {X : Cx} {e : Expr} {ce : E} {sf fr : Bool} {p p2 pos pos2 : Pos}
end
end WB
namespace WB
open PySem PySem.Spec PyProof.Rows L2
section
variable {G : Glob} {O : List Nat} {W : WX} {Φ : Fns} {X : Cx} {σ : L2.St} {H H1 : Hp} {ca : E} {se fr : Bool}
end
end WB
namespace WB
open PySem PySem.Spec PyProof.Rows L2
section
variable {G : Glob} {O : List Nat} {W : WX} {Φ : Fns} {F : Nat} {X : Cx} {σ : L2.St} {H : Hp} {pos : Pos} {tg : Expr}
end
end WB
namespace WB
open PySem PySem.Spec PyProof.Rows L2
section
variable {P : Program} {w : World} {A : Around} {E : Value → Shared → Prop} {s : Shared}
abbrev fh (P : Program) (w : World) (k : List Key) : Int := tupleKeyHash (mixKind P w) k
abbrev Tp := Addr × List Key
def ent (P : Program) (w : World) (p : Tp) : Int × Value := (fh P w p.2, .ref p.1)
def ths (P : Program) (w : World) (L : List Tp) : List Int := L.map fun p => fh P w p.2
structure Ents (P : Program) (w : World) (L : List Tp) (es : Array (Int × Value)) (t : SetTable) : Prop where
  rows : es.toList = L.map (ent P w)
  tab : TabOk t (ths P w L)
  nd : (L.map Prod.snd).Nodup
  led : w.params.followText "set-order" = true ∨ t.led = true
  room : L.length * 5 < t.mask * 3
  few : L.length < 64
def SetAt17 (h : Heap) (a : Addr) (es : Array (Int × Value)) (ep : Nat) (t : SetTable) : Prop := ∃ o, h.get? a = some o ∧ o.ExactSet ∧ o.data = .set es ep t
section
variable {L : List Tp} {es : Array (Int × Value)} {ep : Nat} {t : SetTable} {a : Addr}
theorem Ents.size (R : Ents P w L es t) : es.size = L.length := by
  have q := congrArg List.length R.rows
  rwa [Array.length_toList, List.length_map] at q
theorem Ents.placed (R : Ents P w L es t) : t.place.size = L.length := by
  have q := R.tab.sz
  unfold ths at q
  rwa [List.length_map] at q
theorem Ents.fits (R : Ents P w L es t) : t.fits es.size = true := by
  have q1 := R.placed
  have q2 := R.size
  have q3 := R.room
  unfold SetTable.fits SetTable.fill
  rw [R.tab.dm, Bool.and_eq_true, beq_iff_eq, decide_eq_true_eq]
  show t.place.size = es.size ∧ t.place.size + 0 ≤ t.mask
  omega
theorem Ents.at_ (R : Ents P w L es t) {i : Nat} {p : Tp} (h : L[i]? = some p) : es[i]? = some (ent P w p) := by
  rw [← Array.getElem?_toList, R.rows, List.getElem?_map, h]
  rfl
theorem Ents.whole (R : Ents P w L es t) : (t.gaveWay = true) = False := by
  unfold SetTable.gaveWay
  rw [mask_odd R.tab.mok]
  simp
abbrev pt (m : Nat) (H : Int) (c : Nat) : SetTable.Probe := nth m (runAt m (SetTable.bits H % (m + 1)) (SetTable.bits H)) c
end
end
end WB
namespace WB
open PySem PySem.Spec PyProof.Rows L2
section
variable {P : Program} {w : World} {A : Around} {E : Value → Shared → Prop} {s : Shared}
variable {L : List Tp} {es : Array (Int × Value)} {ep : Nat} {t : SetTable} {a : Addr}
theorem Ents.get (R : es.toList = L.map (ent P w)) (i : Nat) : es[i]? = (L[i]?).map (ent P w) := by
  rw [← Array.getElem?_toList, R, List.getElem?_map]
end
end WB
namespace WB
open PySem PySem.Spec PyProof.Rows L2
def Pick (ks : List Tp) (i : Nat) (L : List Tp) : Prop := (∀ p ∈ L, p ∈ ks.take i) ∧ ∀ p ∈ ks.take i, p.2 ∈ L.map Prod.snd
theorem Pick.next {ks L L' : List Tp} {i : Nat} {x : Tp} (g : Pick ks i L) (hx : ks[i]? = some x) (c : x.2 ∈ L.map Prod.snd ∧ L' = L ∨ x.2 ∉ L.map Prod.snd ∧ L'.Perm (x :: L)) : Pick ks (i + 1) L' := by
  have et : ks.take (i + 1) = ks.take i ++ [x] := by rw [List.take_add_one, hx]; rfl
  unfold Pick
  rw [et]
  rcases c with ⟨m, rfl⟩ | ⟨_, pm⟩
  · refine ⟨fun p hp => List.mem_append_left _ (g.1 p hp), fun p hp => ?_⟩
    rcases List.mem_append.mp hp with hp | hp
    · exact g.2 p hp
    · rw [List.mem_singleton.mp hp]; exact m
  · refine ⟨fun p hp => ?_, fun p hp => (pm.map Prod.snd).mem_iff.mpr ?_⟩
    · rcases List.mem_cons.mp (pm.mem_iff.mp hp) with rfl | hp
      · simp
      · exact List.mem_append_left _ (g.1 p hp)
    · rcases List.mem_append.mp hp with hp | hp
      · exact List.mem_cons_of_mem _ (g.2 p hp)
      · rw [List.mem_singleton.mp hp]; exact List.mem_cons_self
def SetF (P : Program) (w : World) (h : Heap) (a : Addr) (L : List Tp) : Prop := ∃ es ep t, SetAt17 h a es ep t ∧ Ents P w L es t
section
variable {P : Program} {w : World} {A : Around} {E : Value → Shared → Prop} {s : Shared}
theorem SetF.at {h h' : Heap} {a : Addr} {L : List Tp} (R : SetF P w h a L) (k : ∀ o, h.get? a = some o → h'.get? a = some o) : SetF P w h' a L := by
  obtain ⟨es, ep, t, ⟨o, g, r⟩, e⟩ := R
  exact ⟨es, ep, t, ⟨o, k o g, r⟩, e⟩
end
end WB
namespace WB
open PySem PySem.Spec PyProof.Rows L2
section
variable {P : Program} {w : World} {A : Around} {E : Value → Shared → Prop} {s : Shared}
end
end WB
namespace WB
open PySem PySem.Spec PyProof.Rows L2
section
variable {X : Cx}
end
section
variable {G : Glob} {pl : Pl} {H : Hp} {B : Addr → Prop}
end
section
variable {G : Glob} {O : List Nat} {W : WX} {Φ : Fns} {X : Cx} {e : Expr} {ce : E} {sf fr : Bool} {p p2 pos pos2 : Pos}
end
end WB
namespace WB
open PySem PySem.Spec PyProof.Rows L2
section
variable {P : Program} {w : World} {A : Around} {E : Value → Shared → Prop} {s : Shared}
end
section
variable {X : Cx}
end
section
variable {G : Glob} {O : List Nat} {W : WX} {Φ : Fns} {X : Cx} {e : Expr} {ce : E} {sf fr : Bool} {p p2 pos pos2 : Pos}
end
end WB
namespace WB
open PySem PySem.Spec PyProof.Rows L2
section
variable {G : Glob} {O : List Nat} {W : WX} {Φ : Fns} {X : Cx} {c a b : Expr} {cc ca cb : E} {pos : Pos}
end
end WB
namespace WB
open PySem PySem.Spec PyProof.Rows L2
section
variable {P : Program} {w : World} {A : Around} {E : Value → Shared → Prop} {s : Shared}
end
end WB
namespace WB
open PySem PySem.Spec PyProof.Rows L2
section
variable {X : Cx}
end
section
variable {G : Glob} {O : List Nat} {W : WX} {Φ : Fns} {X : Cx} {e : Expr} {ce : E} {sf fr : Bool} {p pos : Pos}
end
end WB
namespace WB
open PySem PySem.Spec PyProof.Rows L2
section
variable {P : Program} {w : World} {A : Around} {E : Value → Shared → Prop} {s : Shared} {z TI TO T i1 i2 : Addr} {fp1 fp2 : List Addr} {n1 n2 i : Nat} {P1 P2 : Nat → Value → Prop} {St1 St2 : Nat → Heap → Prop} {f : Bool} {oT : Obj}
end
end WB
namespace WB
open PySem PySem.Spec PyProof.Rows L2
section
variable {P : Program} {w : World} {A : Around} {z TI TO i1 i2 d : Addr} {fp1 fp2 : List Addr} {n : Nat} {P1 P2 : Nat → Value → Prop} {St1 St2 : Nat → Heap → Prop}
end
end WB
namespace WB
open PySem PySem.Spec PyProof.Rows L2
section
variable {P : Program} {w : World}
end
section
variable {X : Cx}
end
end WB
namespace WB
open PySem PySem.Spec PyProof.Rows L2
section
variable {X : Cx}
end
section
variable {G : Glob} {O : List Nat} {W : WX} {Φ : Fns} {X : Cx} {a b i : Expr} {ca cb ci : E} {sa fa sb fb si fi : Bool} {p p2 pos pos2 : Pos}
end
end WB
namespace WB
open PySem PySem.Spec PyProof.Rows L2
mutual
inductive NK (H : Hp) : V → NestedKey → Prop where
  | non : NK H .non .none
  | int (i : Int) : NK H (.int i) (.num i)
  | str (s : Str) : NK H (.str s) (.text s)
  | tup {a : Addr} {vs : List V} {ks : List NestedKey} (h : H a = some (.tup vs)) (r : NKs H vs ks) : NK H (.ref a) (.tup ks)
inductive NKs (H : Hp) : List V → List NestedKey → Prop where
  | nil : NKs H [] []
  | cons {v : V} {k : NestedKey} {vs : List V} {ks : List NestedKey} (h : NK H v k) (t : NKs H vs ks) : NKs H (v :: vs) (k :: ks)
end
mutual
theorem NK.is {P : Program} {w : World} {H : Hp} {h : Heap} (ok : HOk P w H h) : ∀ {v : V} {k : NestedKey} {u : Value}, NK H v k → RelV v u → NestedIs h k u
  | _, _, u, .non, r => by
    obtain rfl : u = Value.none := r
    exact .none
  | _, _, _, .int i, r => by obtain ⟨t, rfl⟩ := r; exact .int i t
  | _, _, _, .str s, r => by obtain ⟨t, rfl⟩ := r; exact .text s t
  | _, _, u, .tup h r', r => by
    obtain rfl : u = Value.ref _ := r
    obtain ⟨_, its, rv, ob, h1, h2, n, h3⟩ := (show ObjOk P w H _ _ (.tup _) from ok _ _ h)
    exact .tup h1 h2 h3 (NKs.are ok r' rv)
theorem NKs.are {P : Program} {w : World} {H : Hp} {h : Heap} (ok : HOk P w H h) : ∀ {vs : List V} {ks : List NestedKey} {us : List Value}, NKs H vs ks → Vals vs us → NestedAll h ks us
  | _, _, _, .nil, .nil => .nil
  | _, _, _, .cons a t, .cons r rs => .cons (NK.is ok a r) (NKs.are ok t rs)
end
mutual
theorem Rep.nk {G : Glob} {pl : Pl} {H : Hp} {B : Addr → Prop} : ∀ {v : V} {d : D} (n : Nat), Rep G pl H B v d → nkD n d = true → NK H v (nkO d)
  | _, _, _, .non, _ => .non
  | _, _, _, .int i, _ => .int i
  | _, _, _, .str s, _ => .str _
  | _, _, n + 1, .tup h r, q => .tup h (Reps.nks n r q)
  | _, _, 0, .tup h r, q => nomatch (show false = true from q)
  | _, _, n, .bl b, q => by cases n <;> cases q
  | _, _, n, .lst _ _ _, q => by cases n <;> cases q
  | _, _, n, .scr _ _, q => by cases n <;> cases q
  | _, _, n, .scrL _ _ _, q => by cases n <;> cases q
  | _, _, n, .dic _ _ _ _ _, q => by cases n <;> cases q
  | _, _, n, .fn _, q => by cases n <;> cases q
  | _, _, n, .hot _ _, q => by cases n <;> cases q
  | _, _, n, .exc _ _ _, q => by cases n <;> cases q
  | _, _, n, .obj _ _, q => by cases n <;> cases q
theorem Reps.nks {G : Glob} {pl : Pl} {H : Hp} {B : Addr → Prop} : ∀ {vs : List V} {ds : List D} (n : Nat), Reps G pl H B vs ds → nkL n ds = true → NKs H vs (nksO ds)
  | _, _, _, .nil, _ => .nil
  | _, _, n, .cons h t, q => by
    have q' := Bool.and_eq_true_iff.mp q
    exact .cons (Rep.nk n h q'.1) (Reps.nks n t q'.2)
end
mutual
theorem nk_depth : ∀ (n : Nat) (d : D), nkD n d = true → (nkO d).depth ≤ n
  | _, .non, _ => Nat.zero_le _
  | _, .int _, _ => Nat.zero_le _
  | _, .str _, _ => Nat.zero_le _
  | n + 1, .tup ds, q => Nat.succ_le_succ (nks_depth n ds q)
  | 0, .tup _, q => by cases q
  | n, .bl _, q => by cases n <;> cases q
  | n, .lst _, q => by cases n <;> cases q
  | n, .scr _, q => by cases n <;> cases q
  | n, .dic _ _, q => by cases n <;> cases q
  | n, .fn _, q => by cases n <;> cases q
  | n, .hot _ _, q => by cases n <;> cases q
  | n, .exc _, q => by cases n <;> cases q
  | n, .obj _, q => by cases n <;> cases q
theorem nks_depth : ∀ (n : Nat) (ds : List D), nkL n ds = true → NestedKey.depthAll (nksO ds) ≤ n
  | _, [], _ => Nat.zero_le _
  | n, d :: ds, q => by
    have q' := Bool.and_eq_true_iff.mp q
    have h1 := nk_depth n d q'.1
    have h2 := nks_depth n ds q'.2
    show max (nkO d).depth (NestedKey.depthAll (nksO ds)) ≤ n
    omega
end
theorem nkB_tup {d : D} (h : nkB d = true) : ∃ ds, d = .tup ds ∧ nkL 6 ds = true := by
  cases d with
  | tup ds => exact ⟨ds, rfl, h⟩
  | _ => cases h
theorem nkB_D {d : D} (h : nkB d = true) : nkD 7 d = true := by
  obtain ⟨ds, rfl, q⟩ := nkB_tup h
  exact q
theorem txt_inj {a b : List Nat} : decide (txt a = txt b) = (a == b) := by
  by_cases z : a = b
  · subst z; simp
  · have : ¬ txt a = txt b := fun q => z (by
      have := congrArg (fun s : Str => s.cps.toList) q
      simpa [txt] using this)
    rw [decide_eq_false this, beq_eq_false_iff_ne.mpr z]
mutual
theorem nk_eq : ∀ (n m : Nat) (a b : D), nkD n a = true → nkD m b = true → keyEq a b = NestedKey.beq (nkO a) (nkO b)
  | _, _, .non, .non, _, _ => rfl
  | _, _, .non, .int _, _, _ => rfl
  | _, _, .non, .str _, _, _ => rfl
  | _, _, .non, .tup _, _, _ => rfl
  | _, _, .int _, .non, _, _ => rfl
  | _, _, .int i, .int j, _, _ => by
    show (i == j) = decide (i = j)
    rw [Bool.beq_eq_decide_eq]
  | _, _, .int _, .str _, _, _ => rfl
  | _, _, .int _, .tup _, _, _ => rfl
  | _, _, .str _, .non, _, _ => rfl
  | _, _, .str _, .int _, _, _ => rfl
  | _, _, .str a, .str b, _, _ => txt_inj.symm
  | _, _, .str _, .tup _, _, _ => rfl
  | _, _, .tup _, .non, _, _ => rfl
  | _, _, .tup _, .int _, _, _ => rfl
  | _, _, .tup _, .str _, _, _ => rfl
  | n + 1, m + 1, .tup a, .tup b, p, q => nks_eq n m a b p q
  | 0, _, .tup _, .tup _, p, _ => by cases p
  | _, 0, .tup _, .tup _, _, q => by cases q
  | n, _, .bl _, _, p, _ => by cases n <;> cases p
  | n, _, .lst _, _, p, _ => by cases n <;> cases p
  | n, _, .scr _, _, p, _ => by cases n <;> cases p
  | n, _, .dic _ _, _, p, _ => by cases n <;> cases p
  | n, _, .fn _, _, p, _ => by cases n <;> cases p
  | n, _, .hot _ _, _, p, _ => by cases n <;> cases p
  | n, _, .exc _, _, p, _ => by cases n <;> cases p
  | n, _, .obj _, _, p, _ => by cases n <;> cases p
  | _, m, _, .bl _, _, q => by cases m <;> cases q
  | _, m, _, .lst _, _, q => by cases m <;> cases q
  | _, m, _, .scr _, _, q => by cases m <;> cases q
  | _, m, _, .dic _ _, _, q => by cases m <;> cases q
  | _, m, _, .fn _, _, q => by cases m <;> cases q
  | _, m, _, .hot _ _, _, q => by cases m <;> cases q
  | _, m, _, .exc _, _, q => by cases m <;> cases q
  | _, m, _, .obj _, _, q => by cases m <;> cases q
theorem nks_eq : ∀ (n m : Nat) (a b : List D), nkL n a = true → nkL m b = true → keyEqL a b = NestedKey.beqAll (nksO a) (nksO b)
  | _, _, [], [], _, _ => rfl
  | _, _, [], _ :: _, _, _ => rfl
  | _, _, _ :: _, [], _, _ => rfl
  | n, m, a :: as, b :: bs, p, q => by
    have p' := Bool.and_eq_true_iff.mp p
    have q' := Bool.and_eq_true_iff.mp q
    show (keyEq a b && keyEqL as bs) = (NestedKey.beq (nkO a) (nkO b) && NestedKey.beqAll (nksO as) (nksO bs))
    rw [nk_eq n m a b p'.1 q'.1, nks_eq n m as bs p'.2 q'.2]
end
theorem nkB_eq {a b : D} (p : nkB a = true) (q : nkB b = true) : keyEq a b = decide (nkO a = nkO b) := by
  rw [nk_eq 7 7 a b (nkB_D p) (nkB_D q), NestedKey.decide_eq]
def nAt (xs : List NEnt) (k : NestedKey) : Option (Addr × V) := (xs.find? fun x => decide (x.1 = k)).map (·.2)
def nSt (xs : List NEnt) (k : NestedKey) (a : Addr) (v : V) : List NEnt := if (nAt xs k).isSome then xs.map (fun x => if x.1 = k then (x.1, x.2.1, v) else x) else xs ++ [(k, a, v)]
theorem nAt_pos {x : NEnt} {xs : List NEnt} {k : NestedKey} (h : x.1 = k) : nAt (x :: xs) k = some x.2 := by unfold nAt; rw [List.find?_cons, decide_eq_true h]; rfl
theorem nAt_neg {x : NEnt} {xs : List NEnt} {k : NestedKey} (h : ¬ x.1 = k) : nAt (x :: xs) k = nAt xs k := by unfold nAt; rw [List.find?_cons, decide_eq_false h]
theorem atK_pos {K : Type} [DecidableEq K] {x : K × Addr × Value} {xs : List (K × Addr × Value)} {k : K} (h : x.1 = k) : atKey (x :: xs) k = some x.2 := by unfold atKey; rw [List.find?_cons, decide_eq_true h]; rfl
theorem atK_neg {K : Type} [DecidableEq K] {x : K × Addr × Value} {xs : List (K × Addr × Value)} {k : K} (h : ¬ x.1 = k) : atKey (x :: xs) k = atKey xs k := by unfold atKey; rw [List.find?_cons, decide_eq_false h]
theorem NRel.at_ {xs : List NEnt} {ys : List (NestedKey × Addr × Value)} (r : NRel xs ys) (k : NestedKey) : RelO ((nAt xs k).map (·.2)) ((atKey ys k).map (·.2)) := by
  unfold NRel at r
  induction r with
  | nil => exact True.intro
  | @cons p q ps qs h t ih =>
    obtain ⟨h1, h2, h3⟩ := h
    by_cases e : p.1 = k
    · rw [nAt_pos e, atK_pos (h1.symm.trans e)]; exact h3
    · rw [nAt_neg e, atK_neg fun z => e (h1.trans z)]; exact ih
theorem NRel.some_ {xs : List NEnt} {ys : List (NestedKey × Addr × Value)} (r : NRel xs ys) (k : NestedKey) : (nAt xs k).isSome = (atKey ys k).isSome := by
  have := (r.at_ k).isSome_eq
  rwa [Option.isSome_map, Option.isSome_map] at this
theorem NRel.repl {xs : List NEnt} {ys : List (NestedKey × Addr × Value)} (r : NRel xs ys) (k : NestedKey) {v : V} {u : Value} (rv : RelV v u) : NRel (xs.map fun x => if x.1 = k then (x.1, x.2.1, v) else x) (ys.map (putAt k u)) := by
  unfold NRel at r ⊢
  induction r with
  | nil => exact .nil
  | @cons p q ps qs h t ih =>
    rw [List.map_cons, List.map_cons]
    refine .cons ?_ ih
    obtain ⟨h1, h2, h3⟩ := h
    unfold putAt
    by_cases e : p.1 = k
    · rw [if_pos e, if_pos (h1.symm.trans e)]; exact ⟨h1, h2, rv⟩
    · rw [if_neg e, if_neg (fun z => e (h1.trans z))]; exact ⟨h1, h2, h3⟩
theorem NRel.put {xs : List NEnt} {ys : List (NestedKey × Addr × Value)} (r : NRel xs ys) (k : NestedKey) (a : Addr) {v : V} {u : Value} (rv : RelV v u) : NRel (nSt xs k a v) (storedH ys k a u) := by
  unfold nSt storedH
  rw [r.some_ k]
  by_cases e : (atKey ys k).isSome = true
  · rw [if_pos e, if_pos e]; exact r.repl k rv
  · rw [if_neg e, if_neg e]; exact Paired.snoc r ⟨rfl, rfl, rv⟩
theorem n_keys {xs : List NEnt} {kd : List (D × D)} {y : D} (hy : nkB y = true) (e : xs.map (·.1) = kd.map (fun q => nkO q.1)) (hk : ∀ q ∈ kd, nkB q.1 = true) : (kd.any fun p => keyEq p.1 y) = (nAt xs (nkO y)).isSome ∧ (getD y kd).isSome = (nAt xs (nkO y)).isSome := by
  induction kd generalizing xs with
  | nil => cases xs with
    | nil => exact ⟨rfl, rfl⟩
    | cons x xs => cases e
  | cons q kd ih => cases xs with
    | nil => cases e
    | cons x xs =>
      rw [List.map_cons, List.map_cons] at e
      injection e with e1 e2
      have i := ih e2 fun z hz => hk z (List.mem_cons_of_mem _ hz)
      have ke := nkB_eq (hk q (by simp)) hy
      rw [List.any_cons]
      obtain ⟨a, v⟩ := q
      show (keyEq a y || _) = _ ∧ (if keyEq a y = true then some v else getD y kd).isSome = _
      by_cases c : x.1 = nkO y
      · rw [nAt_pos c, ke, decide_eq_true (e1.symm.trans c), if_pos rfl]
        exact ⟨rfl, rfl⟩
      · rw [nAt_neg c, ke, decide_eq_false (fun z => c (e1.trans z)), if_neg (by decide), Bool.false_or]
        exact i
theorem n_put {G : Glob} {pl : Pl} {H : Hp} {B : Addr → Prop} {xs : List NEnt} {kd : List (D × D)} {y d : D} {b : Addr} {v : V} (hy : nkB y = true) (ry : Rep G pl H B (.ref b) y) (rv : Rep G pl H B v d) (e : xs.map (·.1) = kd.map (fun q => nkO q.1)) (hk : ∀ q ∈ kd, nkB q.1 = true)
    (rk : Reps G pl H B (xs.map fun x => V.ref x.2.1) (kd.map (·.1))) (r : Reps G pl H B (xs.map (·.2.2)) (kd.map (·.2))) :
    (nSt xs (nkO y) b v).map (·.1) = (putD y d kd).map (fun q => nkO q.1) ∧ (∀ q ∈ putD y d kd, nkB q.1 = true) ∧ Reps G pl H B ((nSt xs (nkO y) b v).map fun x => V.ref x.2.1) ((putD y d kd).map (·.1)) ∧ Reps G pl H B ((nSt xs (nkO y) b v).map (·.2.2)) ((putD y d kd).map (·.2)) := by
  unfold nSt putD
  rw [(n_keys hy e hk).1]
  by_cases c : (nAt xs (nkO y)).isSome = true
  · rw [if_pos c, if_pos c]
    clear c
    induction kd generalizing xs with
    | nil => cases xs with
      | nil => exact ⟨rfl, (fun _ z => by cases z), .nil, .nil⟩
      | cons x xs => cases e
    | cons q kd ih => cases xs with
      | nil => cases e
      | cons x xs =>
        rw [List.map_cons, List.map_cons] at e r rk
        injection e with e1 e2
        cases r with
        | cons r1 r2 =>
          cases rk with
          | cons k1 k2 =>
            obtain ⟨i1, i2, i3, i4⟩ := ih e2 (fun z hz => hk z (List.mem_cons_of_mem _ hz)) k2 r2
            have ke := nkB_eq (hk q (by simp)) hy
            have hq := hk q (by simp)
            simp only [List.map_cons]
            by_cases c : x.1 = nkO y
            · have t : keyEq q.1 y = true := by rw [ke, decide_eq_true (e1.symm.trans c)]
              rw [if_pos c, if_pos t]
              refine ⟨by rw [i1]; show x.1 :: _ = nkO q.1 :: _; rw [e1], fun z hz => ?_, .cons k1 i3, .cons rv i4⟩
              rcases List.mem_cons.mp hz with rfl | hz
              · exact hq
              · exact i2 z hz
            · have t : ¬ keyEq q.1 y = true := by rw [ke, decide_eq_false (fun z => c (e1.trans z))]; decide
              rw [if_neg c, if_neg t]
              refine ⟨by rw [i1, e1], fun z hz => ?_, .cons k1 i3, .cons r1 i4⟩
              rcases List.mem_cons.mp hz with rfl | hz
              · exact hq
              · exact i2 z hz
  · rw [if_neg c, if_neg c]
    refine ⟨by rw [List.map_append, List.map_append, e]; rfl, fun z hz => ?_, ?_, ?_⟩
    · rcases List.mem_append.mp hz with hz | hz
      · exact hk z hz
      · rw [List.mem_singleton.mp hz]; exact hy
    · rw [List.map_append, List.map_append]; exact rk.append (.cons ry .nil)
    · rw [List.map_append, List.map_append]; exact r.append (.cons rv .nil)
theorem no_ne {P : Program} {w : World} {a c : Addr} {xs : List NEnt} {q : Str} : NO P w a xs ≠ LamX.CodeO c q := fun z => by
  unfold NO LamX.CodeO at z
  injection z with z
  have e := congrFun z (⟨Array.replicate (c + 1) (⟨.none, none, .fields #[.none, .str q 0], #[]⟩ : Obj), {}⟩ : Heap)
  have g : ∀ b, b < c + 1 → (⟨Array.replicate (c + 1) (⟨.none, none, .fields #[.none, .str q 0], #[]⟩ : Obj), {}⟩ : Heap).get? b = some ⟨.none, none, .fields #[.none, .str q 0], #[]⟩ := fun b hb => by
    unfold Heap.get?
    rw [show (Array.replicate (c + 1) (⟨.none, none, .fields #[.none, .str q 0], #[]⟩ : Obj))[b]? = some _ from by rw [Array.getElem?_replicate, if_pos hb]]
  have r := e.mpr ⟨_, _, 0, g c (Nat.lt_succ_self c), rfl, rfl⟩
  obtain ⟨_, _, ys, _, o, es, ep, h1, _, h3, _⟩ := r
  by_cases l : a < c + 1
  · rw [g a l] at h1
    cases h1
    cases h3
  · unfold Heap.get? at h1
    rw [show (Array.replicate (c + 1) (⟨.none, none, .fields #[.none, .str q 0], #[]⟩ : Obj))[a]? = none from by rw [Array.getElem?_replicate, if_neg l]] at h1
    cases h1
theorem ext_updN {P : Program} {w : World} {H : Hp} {p : Addr} {xs : List NEnt} {u' : HO} (hp : H p = some (NO P w p xs)) : Ext (fun a => a = p) H (upd H p u') := by
  refine ⟨fun a w na h => ?_, fun a us h => ?_, fun a w x h => ?_, fun a q h => ?_, fun a h => ?_⟩
  · rw [upd_ne na]; exact h
  · rw [upd_ne (fun z => by rw [z, hp] at h; cases h)]; exact h
  · rw [upd_ne (fun z => by rw [z, hp] at h; cases h)]; exact h
  · rw [upd_ne (fun z => by rw [z, hp] at h; exact no_ne (Option.some.inj h))]; exact h
  · by_cases z : a = p
    · rw [z, upd_same] at h; cases h
    · rw [upd_ne z] at h; exact h
structure NAt (P : Program) (w : World) (H : Hp) (a : Addr) (xs : List NEnt) : Prop where
  rd : Rd H a (NO P w a xs)
  key : ∀ x ∈ xs, NK H (.ref x.2.1) x.1 ∧ x.1.depth ≤ 8
section
variable {X : Cx} {pins : List (Addr × Obj)} {σ : L2.St} {H : Hp} {s : Shared} {a b : Addr} {xs : List NEnt} {k : NestedKey} {A : Around} {E : Value → Shared → Prop} {v : V} {u : Value}
end
end WB
namespace WB
open PySem PySem.Spec PyProof.Rows L2
section
variable {G : Glob} {O : List Nat} {W : WX} {Φ : Fns} {F : Nat} {X : Cx} {σ : L2.St} {H H' : Hp} {pos : Pos} {a b e i : Expr} {es : List Expr} {ca cb ce ci : E} {ces : List E} {sa fa sb fb se fe si fi sf : Bool}
theorem keys_nk {pl : Pl} {B : Addr → Prop} : ∀ {xs : List NEnt} {kd : List (D × D)}, xs.map (·.1) = kd.map (fun q => nkO q.1) → (∀ q ∈ kd, nkB q.1 = true) → Reps G pl H B (xs.map fun x => V.ref x.2.1) (kd.map (·.1)) → ∀ x ∈ xs, NK H (.ref x.2.1) x.1 ∧ x.1.depth ≤ 8
  | [], _, _, _, _, x, hx => nomatch hx
  | _ :: _, [], e, _, _, _, _ => nomatch e
  | y :: xs, q :: kd, e, hk, r, x, hx => by
    rw [List.map_cons, List.map_cons] at e r
    injection e with e1 e2
    cases r with
    | cons r1 r2 =>
      rcases List.mem_cons.mp hx with rfl | hx
      · have h7 := nkB_D (hk q (by simp))
        rw [e1]
        exact ⟨r1.nk 7 h7, by have := nk_depth 7 q.1 h7; omega⟩
      · exact keys_nk e2 (fun z hz => hk z (List.mem_cons_of_mem _ hz)) r2 x hx
theorem NdRep.at_ {pl : Pl} {B : Addr → Prop} {p : Addr} {l : Bool} {kd : List (D × D)} (r : NdRep G pl H B p l kd) : ∃ xs, NAt G.P G.w H p xs ∧ (l = false → H p = some (NO G.P G.w p xs)) ∧ xs.map (·.1) = kd.map (fun q => nkO q.1) ∧ (∀ q ∈ kd, nkB q.1 = true) ∧ Reps G pl H B (xs.map fun x => V.ref x.2.1) (kd.map (·.1)) ∧ Reps G pl H B (xs.map (·.2.2)) (kd.map (·.2)) := by
  obtain ⟨xs, h1, h2, h3, h4, h5⟩ := r
  refine ⟨xs, ⟨?_, keys_nk h2 h3 h4⟩, fun z => by subst z; exact h1, h2, h3, h4, h5⟩
  cases l with
  | true => obtain ⟨z, h1⟩ := h1; exact .inr ⟨z, h1⟩
  | false => exact .inl h1
theorem RT.key {pl : Pl} {o : Objs} {B : Addr → Prop} {v : V} {d : D} (h : RT G pl o H B v d) (hk : nkB d = true) : ∃ b, v = .ref b ∧ NK H (.ref b) (nkO d) ∧ (nkO d).depth ≤ 8 ∧ Rep G pl H B (.ref b) d := by
  have h7 := nkB_D hk
  have dd : (nkO d).depth ≤ 8 := by have := nk_depth 7 d h7; omega
  obtain ⟨ds, rfl, q⟩ := nkB_tup hk
  rcases h with h | ⟨p, _, _, h⟩
  · cases h with
    | tup hb r => exact ⟨_, rfl, (Rep.tup hb r).nk 7 h7, dd, .tup hb r⟩
  · exact h.elim
theorem Fs.nset (f : Fs G O σ H) {n : Nat} {bo bn : Ob} {u' : HO} (h : f.o[n]? = some bo) (hb : ∀ c fs, bo ≠ .ins c fs) (hb' : ∀ c fs, bn ≠ .ins c fs) (hx : ∀ d, bn ≠ .box d) (e : Ext (fun a => a = f.pl.of (.ob n)) H (upd H (f.pl.of (.ob n)) u'))
    (nn : ∀ l kd, bn = .nd l kd → NdRep G f.pl (upd H (f.pl.of (.ob n)) u') f.B (f.pl.of (.ob n)) l kd) (nl : ∀ d, bn = .lk d → Rep G f.pl (upd H (f.pl.of (.ob n)) u') f.B (.ref (f.pl.of (.ob n))) d) :
    ∃ f' : Fs G O σ (upd H (f.pl.of (.ob n)) u'), f.To f' ∧ f'.o = f.o.set n bn ∧ f'.pl = f.pl ∧ f'.B = f.B := by
  have r := f.sr.obj
  have hn : n < f.o.length := (List.getElem?_eq_some_iff.mp h).1
  have lv : ∀ k, live G (f.o.set n bn) k ↔ live G f.o k := live_set h ⟨(fun ⟨_, _, z⟩ => (hb _ _ z).elim), (fun ⟨_, _, z⟩ => (hb' _ _ z).elim)⟩
  have st := step_at (o' := f.o.set n bn) (pl := f.pl) e hn lv
  have vB : Bv G O f.B0 f.R f.pl f.m (f.o.set n bn) = f.B := by
    funext a
    show (f.B0 a ∨ _ ∨ Vol G (f.o.set n bn) f.pl a) = (f.B0 a ∨ _ ∨ Vol G f.o f.pl a)
    rw [vol_same lv]
  have r' : OR G f.pl (f.o.set n bn) (upd H (f.pl.of (.ob n)) u') f.B := by
    refine or_at r e hn (by rw [List.length_set]) (fun m hm => List.getElem?_set_ne (Ne.symm hm)) lv (fun a z => Bv.vol z) (fun d1 hd1 => ?_) (fun c fs q => ?_) (fun l kd q => ?_) fun d1 q => ?_
    · rw [List.getElem?_set_self hn] at hd1
      exact (hx _ (Option.some.inj hd1)).elim
    · rw [List.getElem?_set_self hn] at q
      exact (hb' _ _ (Option.some.inj q)).elim
    · rw [List.getElem?_set_self hn] at q
      exact nn l kd (Option.some.inj q)
    · rw [List.getElem?_set_self hn] at q
      exact nl d1 (Option.some.inj q)
  exact ⟨f.at (f.sr.step st (by rw [vB]; exact r')), ⟨rfl, rfl, rfl, st⟩, rfl, rfl, vB⟩
theorem Fs.nput (f : Fs G O σ H) {n : Nat} {kd : List (D × D)} {xs : List NEnt} {y d : D} {b : Addr} {v : V} (hn : f.o[n]? = some (.nd false kd)) (hp : H (f.pl.of (.ob n)) = some (NO G.P G.w (f.pl.of (.ob n)) xs)) (hy : nkB y = true) (ry : Rep G f.pl H f.B (.ref b) y) (rv : Rep G f.pl H f.B v d)
    (e1 : xs.map (·.1) = kd.map (fun q => nkO q.1)) (e2 : ∀ q ∈ kd, nkB q.1 = true) (e3 : Reps G f.pl H f.B (xs.map fun x => V.ref x.2.1) (kd.map (·.1))) (e4 : Reps G f.pl H f.B (xs.map (·.2.2)) (kd.map (·.2))) :
    ∃ f' : Fs G O σ (upd H (f.pl.of (.ob n)) (NO G.P G.w (f.pl.of (.ob n)) (nSt xs (nkO y) b v))), f.To f' ∧ f'.o = f.o.set n (.nd false (putD y d kd)) ∧ f'.pl = f.pl ∧ f'.B = f.B := by
  have ex := ext_updN (u' := NO G.P G.w (f.pl.of (.ob n)) (nSt xs (nkO y) b v)) hp
  have hl : n < f.o.length := (List.getElem?_eq_some_iff.mp hn).1
  have tb : ∀ a, a = f.pl.of (.ob n) → f.B a := fun a z => by rw [z]; exact Bv.vol ⟨.ob n, hl, rfl⟩
  obtain ⟨g1, g2, g3, g4⟩ := n_put hy ry rv e1 e2 e3 e4
  refine f.nset hn (fun _ _ z => by cases z) (fun _ _ z => by cases z) (fun _ z => by cases z) ex (fun l kd' q => ?_) (fun d q => by cases q)
  cases q
  exact ⟨_, upd_same, g1, g2, reps_gen ex tb (fun _ _ z => z) g3, reps_gen ex tb (fun _ _ z => z) g4⟩
end
end WB
namespace WB
open PySem PySem.W PySem.Spec PyProof.Rows L2
section
variable {X : Cx} {pins : List (Addr × Obj)} {σ : L2.St} {H : Hp} {s : Shared} {d : Addr} {o : Obj}
end
section
variable {X : Cx} {pins : List (Addr × Obj)} {σ : L2.St} {elts : List Expr} {kk : Nat} {tpos apos cpos : Pos} {e : Expr} {td : TE}
end
section
variable {G : Glob} {O : List Nat} {W : WX} {Φ : Fns} {X : Cx} {σ : L2.St} {H : Hp} {elts : List Expr} {kk : Nat} {tpos ap pos : Pos} {e : Expr} {c : E} {sf fr : Bool}
end
end WB
namespace WB
open PySem PySem.Spec PyProof.Rows L2
section
variable {G : Glob} {O : List Nat} {W : WX} {Φ : Fns} {F : Nat} {X : Cx} {σ : L2.St} {H H' : Hp} {pos : Pos} {a b e i : Expr} {es : List Expr} {ca cb ce ci : E} {ces : List E} {sa fa sb fb se fe si fi sf : Bool}
theorem s_lset {x : PySem.Str} {px pos' : Pos} {k v : Expr} {ck cv : E} {sk fk fv : Bool} (xo : XO G W X) (i : Nat) (hk : PE X k (TEv G O W Φ ck sk fk)) (hv : PE X v (TEv G O W Φ cv true fv)) (hO : i ∈ O := by decide) (hO2 : i + 10000 ∉ O := by decide) (hN : X.N[i]? = some x := by rfl) (hvis : Vis X.env.scope x := by first | exact .inl rfl | exact .inr (.inl rfl) | exact .inr (.inr rfl)) (hd : (x == ("__debug__" : PySem.Str)) = false := by decide) (hcd : (x == ("__classdict__" : PySem.Str)) = false := by decide)
    (has : ∀ w, assign (.Subscript (.Name x px) k pos') X.env w = (do
      let ov ← holding [w] (eval (.Name x px) X.env)
      let iv ← holding [w, ov] (eval k X.env)
      standAt pos'
      holding [w, ov, iv] (setItem ov iv w)
      release [w, ov, iv] []) := by intro _; rfl)
    (hs : swapsWithSole [.Subscript (.Name x px) k pos'] v pos.line X.env = pure false := by rfl) (hw : swappedStores [.Subscript (.Name x px) k pos'] v X.env = pure none := by rfl)
    (h1 : (assignEach [.Subscript (.Name x px) k pos'] X.env).map (·.2) = [assign (.Subscript (.Name x px) k pos') X.env] := by rfl) : PS X (.Assign [.Subscript (.Name x px) k pos'] v pos) (TSv G O W Φ F (.lset i ck cv)) :=
  PS.imp (ps_asg hv (pg_sub (pe_var hN hvis hd hcd) hk set_list has) hs hw h1) fun D σ H ⟨f, h⟩ => by
    refine TEv.thenS f h fun y H1 f1 d t xv h1 => ?_
    rw [← t.m] at h1
    obtain ⟨dl, hm, h2⟩ := post_slot h1
    obtain ⟨ds, us, rfl, ev, hp, rs⟩ := own_lst f1 hO hO2 hm
    refine ⟨_, ev, ?_⟩
    refine TEv.thenS f1 h2 fun w H2 f2 dk t2 xk h3 => ?_
    have hm2 : f2.m[i]? = some (some (.lst ds)) := by rw [t2.m]; exact hm
    obtain ⟨ds2, us2, ed, _, hp2, rs2⟩ := own_lst f2 hO hO2 hm2
    cases ed
    cases dk with
    | int n =>
      have h3' : Post ((match ixD ds.length n with | some j => pure (WB.D.lst (ds.set j d)) | none => M.fail) >>= fun z => pure (.next (f1.m.set i (some z)))) f2.o (KS G O f D) (KXs G O W f2) := h3
      cases q : ixD ds.length n with
      | none => rw [q] at h3'; exact h3'.elim
      | some j =>
        rw [q] at h3'
        have rv := t2.rep (xv.sf rfl)
        have rr : Reps G f2.pl H2 f2.B (us2.set j y) (ds.set j d) := rs2.set rv j
        have ix : ixN us2.length n = some j := by
          rw [rs2.length]
          unfold ixD at q
          unfold ixN
          exact q
        rw [show f1.R i = f2.R i from by rw [t2.r]]
        refine ⟨_, us2, n, j, rfl, xk.rt.int, hp2, ix, ?_⟩
        refine (show KS G O f D (.next (f1.m.set i (some (.lst (ds.set j d))))) f2.o from h3') σ _ (f2.write hO hm2 hp2 rr rfl) ((t.trans t2).go.trans (f2.write_go hO hm2 hp2 rr rfl)) rfl ?_
        show f2.m.set i _ = _
        rw [t2.m]
    | _ => exact h3.elim
end
end WB

namespace WB
open PySem PySem.Spec PyProof.Rows L2
def nFill (xs es : List NEnt) : List NEnt := es.foldl (fun acc e => nSt acc e.1 e.2.1 e.2.2) xs
theorem NRel.fill : ∀ {es : List NEnt} {qs : List (NestedKey × Addr × Value)} {xs : List NEnt} {ys : List (NestedKey × Addr × Value)}, NRel es qs → NRel xs ys → NRel (nFill xs es) (storedAllH ys qs)
  | [], [], _, _, _, r => r
  | e :: es, q :: qs, xs, ys, h, r => by
    unfold NRel at h
    cases h with
    | cons a t =>
      obtain ⟨a1, a2, a3⟩ := a
      have := r.put e.1 e.2.1 a3
      show NRel (nFill (nSt xs e.1 e.2.1 e.2.2) es) (storedAllH (storedH ys q.1 q.2.1 q.2.2) qs)
      refine NRel.fill (show NRel es qs from t) ?_
      rw [← a1, ← a2]
      exact this
  | [], _ :: _, _, _, h, _ => by cases h
  | _ :: _, [], _, _, h, _ => by cases h
section
variable {X : Cx}
end
section
variable {G : Glob} {O : List Nat} {W : WX} {Φ : Fns} {F : Nat} {X : Cx} {σ : L2.St} {H H' : Hp} {pos : Pos} {a b e i : Expr} {es : List Expr} {ca cb ce ci : E} {ces : List E} {sa fa sb fb se fe si fi sf : Bool}
end
end WB
namespace WB
open PySem PySem.Spec PyProof.Rows L2
section
variable {G : Glob} {X : Cx} {pins : List (Addr × Obj)} {σ : L2.St} {H : Hp} {s : Shared} {pl : Pl} {B : Addr → Prop}
end
section
variable {G : Glob} {X : Cx}
end
end WB
namespace WB
open PySem PySem.Spec PyProof.Rows L2
section
variable {G : Glob} {O : List Nat} {W : WX} {Φ : Fns} {F : Nat} {X : Cx} {σ : L2.St} {H H' : Hp} {pos : Pos} {a b e i : Expr} {es : List Expr} {ca cb ce ci : E} {ces : List E} {sa fa sb fb se fe si fi sf : Bool}
end
end WB
namespace WB
open PySem PySem.Spec PyProof.Rows L2
theorem bnd_ok {α β : Type} {x : M α} {f : α → M β} {o o' : Objs} {b : β} (h : (x >>= f) o = .ok b o') : ∃ a o1, x o = .ok a o1 ∧ f a o1 = .ok b o' := by
  have h' : (match x o with | .ok a o1 => f a o1 | .exn k o1 => .exn k o1 | .stuck => .stuck) = .ok b o' := h
  cases q : x o with
  | ok a o1 => rw [q] at h'; exact ⟨a, o1, rfl, h'⟩
  | exn k o1 => rw [q] at h'; cases h'
  | stuck => rw [q] at h'; cases h'
theorem bnd_exn {α β : Type} {x : M α} {f : α → M β} {o o' : Objs} {k : Nat} (h : (x >>= f) o = .exn k o') : x o = .exn k o' ∨ ∃ a o1, x o = .ok a o1 ∧ f a o1 = .exn k o' := by
  have h' : (match x o with | .ok a o1 => f a o1 | .exn k o1 => .exn k o1 | .stuck => .stuck) = .exn k o' := h
  cases q : x o with
  | ok a o1 => rw [q] at h'; exact .inr ⟨a, o1, rfl, h'⟩
  | exn k1 o1 =>
    rw [q] at h'
    cases h'
    exact .inl rfl
  | stuck => rw [q] at h'; cases h'
section
variable {G : Glob} {pl : Pl} {o : Objs} {H : Hp} {B : Addr → Prop}
abbrev NoB : Addr → Prop := fun _ => False
theorem Rep.no {v : V} {d : D} (h : Rep G pl H B v d) : Rep G pl H NoB v d := h.al Ext.refl fun _ _ z => z.elim
theorem Reps.no {v : List V} {d : List D} (h : Reps G pl H B v d) : Reps G pl H NoB v d := h.al Ext.refl fun _ _ z => z.elim
theorem ders_of {n : Nat} (A : ∀ (d d' : D) (o' : Objs), derD n d o = .ok d' o' → o' = o ∧ ∀ v, Rep G pl H B v d → Rep G pl H NoB v d') : ∀ (ds ds' : List D) (o' : Objs), mapMs (derD n) ds o = .ok ds' o' → o' = o ∧ ∀ vs, Reps G pl H B vs ds → Reps G pl H NoB vs ds'
  | [], ds', o', h => by
    cases h
    refine ⟨rfl, fun vs r => ?_⟩
    cases r
    exact .nil
  | d :: ds, ds', o', h => by
    obtain ⟨d1, o1, h1, h2⟩ := bnd_ok (show (derD n d >>= fun y => mapMs (derD n) ds >>= fun ys => pure (y :: ys)) o = .ok ds' o' from h)
    obtain ⟨q1, a⟩ := A d d1 o1 h1
    rw [q1] at h2
    obtain ⟨ds1, o2, h3, h4⟩ := bnd_ok h2
    obtain ⟨q2, b⟩ := ders_of A ds ds1 o2 h3
    rw [q2] at h4
    cases h4
    refine ⟨rfl, fun vs r => ?_⟩
    cases r with
    | cons x y => exact .cons (a _ x) (b _ y)
theorem der_own {n : Nat} (A : ∀ (d d' : D) (o' : Objs), derD n d o = .ok d' o' → o' = o ∧ ∀ v, Rep G pl H B v d → Rep G pl H NoB v d') (xs : List D) (d' : D) (o' : Objs) (h : derD (n + 1) (.lst xs) o = .ok d' o') : o' = o ∧ ∀ p vs, H p = some (.lst vs) → Reps G pl H B vs xs → Rep G pl H NoB (.ref p) d' := by
  obtain ⟨ys, o1, h1, h2⟩ := bnd_ok (show (mapMs (derD n) xs >>= fun ys => pure (D.lst ys)) o = .ok d' o' from h)
  obtain ⟨rfl, a⟩ := ders_of A xs ys o1 h1
  cases h2
  exact ⟨rfl, fun p vs hp r => .lst (fun z => z) hp (a vs r)⟩
theorem der_rep (r : OR G pl o H B) : ∀ n, (∀ (d d' : D) (o' : Objs), derD n d o = .ok d' o' → o' = o ∧ ∀ v, Rep G pl H B v d → Rep G pl H NoB v d') ∧ ∀ (xs : List D) (d' : D) (o' : Objs), derD n (.lst xs) o = .ok d' o' → o' = o ∧ ∀ p vs, H p = some (.lst vs) → Reps G pl H B vs xs → Rep G pl H NoB (.ref p) d'
  | 0 => by
    refine ⟨fun d d' o' h => ?_, fun xs d' o' h => ?_⟩
    · cases h
      exact ⟨rfl, fun v q => q.no⟩
    · cases h
      exact ⟨rfl, fun p vs hp q => .lst (fun z => z) hp q.no⟩
  | n + 1 => by
    obtain ⟨A, L⟩ := der_rep r n
    have L' := der_own A
    refine ⟨fun d d' o' h => ?_, L'⟩
    cases d with
    | obj k =>
      have h' : (match o[k]? with | some (.box (.lst xs)) => derD n (.lst xs) o | _ => .stuck) = .ok d' o' := h
      cases q : o[k]? with
      | none => rw [q] at h'; cases h'
      | some b =>
        rw [q] at h'
        cases b with
        | box bd =>
          cases bd with
          | lst xs =>
            obtain ⟨rfl, a⟩ := L xs d' o' h'
            refine ⟨rfl, fun v rv => ?_⟩
            obtain ⟨vs, hp, rs⟩ := r.box k (.lst xs) q
            cases rv with
            | obj _ hk => exact a _ vs hp rs
          | _ => cases h'
        | _ => cases h'
    | lst xs =>
      obtain ⟨rfl, a⟩ := L' xs d' o' h
      refine ⟨rfl, fun v rv => ?_⟩
      cases rv with
      | lst _ hp rs => exact a _ _ hp rs
    | _ =>
      cases h
      exact ⟨rfl, fun v q => q.no⟩
end
section
variable {G : Glob} {O : List Nat} {W : WX} {Φ : Fns} {F : Nat} {X : Cx} {σ : L2.St} {H H' : Hp} {pos : Pos} {a b e i : Expr} {ca cb ce ci : E} {sa fa sb fb : Bool}
theorem post_ok {α : Type} {x : M α} {o : Objs} {P : α → Objs → Prop} {E : Nat → Objs → Prop} (h : Post x o P E) (ne : ∀ k o', x o ≠ .exn k o') : ∃ d o', x o = .ok d o' ∧ P d o' := by
  unfold Post at h
  cases q : x o with
  | ok d o' => rw [q] at h; exact ⟨d, o', rfl, h⟩
  | exn k o' => exact absurd q (ne k o')
  | stuck => rw [q] at h; exact h.elim
theorem mapMs_noexn {f : D → M D} (hf : ∀ d o k o', f d o ≠ .exn k o') : ∀ (ds : List D) (o : Objs) (k : Nat) (o' : Objs), mapMs f ds o ≠ .exn k o'
  | [], _, _, _ => fun z => by cases z
  | d :: ds, o, k, o' => fun z => by
    rcases bnd_exn (show (f d >>= fun y => mapMs f ds >>= fun ys => pure (y :: ys)) o = .exn k o' from z) with h | ⟨a, o1, _, h⟩
    · exact hf d o k o' h
    · rcases bnd_exn h with h | ⟨ys, o2, _, h⟩
      · exact mapMs_noexn hf ds o1 k o' h
      · cases h
theorem derD_noexn : ∀ (n : Nat) (d : D) (o : Objs) (k : Nat) (o' : Objs), derD n d o ≠ .exn k o'
  | 0, d, o, k, o' => fun z => by cases z
  | n + 1, d, o, k, o' => fun z => by
    cases d with
    | obj j =>
      have z' : (match o[j]? with | some (.box (.lst xs)) => derD n (.lst xs) o | _ => .stuck) = .exn k o' := z
      cases q : o[j]? with
      | none => rw [q] at z'; cases z'
      | some b =>
        rw [q] at z'
        cases b with
        | box bd =>
          cases bd with
          | lst xs => exact derD_noexn n _ o k o' z'
          | _ => cases z'
        | _ => cases z'
    | lst xs =>
      rcases bnd_exn (show (mapMs (derD n) xs >>= fun ys => pure (D.lst ys)) o = .exn k o' from z) with h | ⟨ys, o2, _, h⟩
      · exact mapMs_noexn (derD_noexn n) xs o k o' h
      · cases h
    | _ => cases z
theorem der_rt {pl : Pl} {o o' : Objs} {B : Addr → Prop} (r : OR G pl o H B) {v : V} {d d' : D} (h : RT G pl o H B v d) (e : derD 3 d o = .ok d' o') : RT G pl [] H NoB v d' := by
  rcases h with h | ⟨p, ev, nv, ow⟩
  · exact .inl (((der_rep r 3).1 d d' o' e).2 v h)
  · subst ev
    cases d with
    | lst xs =>
      obtain ⟨vs, hp, rs⟩ := ow
      exact .inl (((der_rep r 3).2 xs d' o' e).2 p vs hp rs)
    | dic t kd =>
      cases e
      obtain ⟨u, ks, ws, ds, h1, h2, h3, h4, h5⟩ := ow
      exact .inr ⟨p, rfl, fun ⟨k, l, q⟩ => nv ⟨k, (live_nil (pl := pl) l).1, q⟩, u, ks, ws, ds, h1, h2, h3.no, h4, h5⟩
    | _ => exact ow.elim
theorem t_dcmp {neg : Bool} {op : B2} {Q : VK} (hop : ∀ x y, opM op x y = eqM x y >>= fun e => pure (.bl (e == neg))) (h : TEv G O W Φ (.dcmp neg ca cb) true true σ H Q) : tOp (r2 G op) (TEv G O W Φ ca sa fa) (TEv G O W Φ cb sb fb) σ H Q := by
  obtain ⟨f, h⟩ := h
  refine TEv.then f h fun v H1 f1 d t x h1 => ?_
  rw [← t.m] at h1
  refine TEv.then f1 h1 fun y H2 f2 d2 t2 x2 h2 => ?_
  have r := f2.sr.obj
  have h2' := Post.bind.mp (show Post (derD 3 d >>= fun x => derD 3 d2 >>= fun y => eqM x y >>= fun e => pure (.bl (e == neg))) f2.o (KE G O f true true Q) (KX G O W f2) from h2)
  obtain ⟨d', o1, e1, h3⟩ := post_ok h2' (derD_noexn 3 d f2.o)
  obtain rfl := ((der_rep r 3).1 d d' o1 e1).1
  obtain ⟨d2', o2, e2, h4⟩ := post_ok (Post.bind.mp h3) (derD_noexn 3 d2 _)
  obtain rfl := ((der_rep r 3).1 d2 d2' o2 e2).1
  refine ⟨f2.pl, [], NoB, d', d2', fun a z => z.elim, der_rt r (t2.rt x.rt) e1, der_rt r x2.rt e2, ?_⟩
  rw [hop]
  unfold eqM at h4 ⊢
  cases q : eqD dp d' d2' with
  | none => rw [q] at h4; exact h4.elim
  | some b =>
    rw [q] at h4
    have k : KE G O f true true Q (.bl (b == neg)) f2.o := h4
    show Out G f2.pl NoB H2 Q (.bl (b == neg))
    intro v' H' al rv _
    cases rv
    exact k.out (t.trans t2) (.bl _) H' al (.bl _) (fun z => by cases z)
theorem p_dcmp {op : CmpOp} (xo : XO G W X) (neg : Bool) (ho : (neg = true ∧ op = .Eq) ∨ (neg = false ∧ op = .NotEq)) (ha : PE X a (TEv G O W Φ ca sa fa)) (hb : PE X b (TEv G O W Φ cb sb fb)) (hm : behindInMarks op b = false := by rfl) : PT X (.Compare a [op] [b] pos) (TTv G O W Φ (.dcmp neg ca cb)) := by
  rcases ho with ⟨rfl, rfl⟩ | ⟨rfl, rfl⟩
  · exact PT.imp (pt_cmpR (show OpR X (compareOp .Eq) (r2 G .eq) from ok_op xo.K xo.u .eq) ha hb hm) fun _ _ _ h => t_dcmp (fun x y => by
      show (eqM x y >>= fun b => pure (D.bl b)) = _
      congr 1
      funext b
      cases b <;> rfl) (te_tt h)
  · exact PT.imp (pt_cmpR (show OpR X (compareOp .NotEq) (r2 G .ne) from ok_op xo.K xo.u .ne) ha hb hm) fun _ _ _ h => t_dcmp (fun x y => by
      show (eqM x y >>= fun b => pure (D.bl (!b))) = _
      congr 1
      funext b
      cases b <;> rfl) (te_tt h)
end
end WB
namespace WB.C
open WB
def c__law_cell : List S := [.ifS (.bin .lt (.slot 1) (.blt .len [.slot 0])) [.ret (.idx (.slot 0) (.slot 1))] [], .ifS (.bin .eq (.slot 0) (.lst [])) [.ret (.cst (.int 0))] [], .ret (.bin .add (.bin .mul (.idx (.slot 0) (.bin .mod (.slot 1) (.blt .len [.slot 0]))) (.cst (.int 31))) (.slot 1))]
def d__law_cell : List D → M D := denM (tab []) 1000 2 2 c__law_cell
def c__law_letters : List S := [.ret (.blt .sortedSet [.comp (.name 1) (.ival (.slot 0)) none (.idx (.slot 1) (.cst (.int 1))) [1]])]
def d__law_letters : List D → M D := denM (tab []) 1000 1 2 c__law_letters
def c__law_pick : List S := [.set 3 (.bin .mod (.bin .mul (.bin .add (.call 0 [.slot 0, .slot 1]) (.bin .mul (.cst (.int 6151)) (.bin .add (.slot 1) (.cst (.int 1))))) (.cst (.int 40692))) (.cst (.int 2147483399))), .ret (.bin .mod (.bin .mod (.bin .add (.bin .mul (.slot 3) (.slot 3)) (.bin .fdiv (.slot 3) (.cst (.int 31)))) (.cst (.int 2147483629))) (.slot 2))]
def d__law_pick : List D → M D := denM (tab [d__law_cell]) 1000 3 4 c__law_pick
def c__law_rows_by : List S := [.setO 2 (.lst []), .forS (.many [3, 4]) (.ienum (.slot 1)) [.set 5 (.ite (.bin .gt (.slot 3) (.cst (.int 0))) (.idx (.slot 1) (.bin .sub (.slot 3) (.cst (.int 1)))) (.cst (.str [35]))), .set 6 (.ite (.bin .lt (.bin .add (.slot 3) (.cst (.int 1))) (.blt .len [.slot 1])) (.idx (.slot 1) (.bin .add (.slot 3) (.cst (.int 1)))) (.cst (.str [35]))), .forS (.many [7, 8]) (.ienum (.slot 0)) [.ifS (.and (.bin .eq (.idx (.slot 8) (.cst (.int 1))) (.slot 4)) (.and (.bin .in_ (.idx (.slot 8) (.cst (.int 0))) (.tup [.cst .non, .slot 5])) (.bin .in_ (.idx (.slot 8) (.cst (.int 2))) (.tup [.cst .non, .slot 6])))) [.app 2 (.slot 7), .brk] []]], .ret (.slot 2)]
def d__law_rows_by : List D → M D := denM (tab []) 1000 2 9 c__law_rows_by
def c__law_written : List S := [.ret (.mth .join true (.cst (.str [])) [.comp (.name 2) (.ival (.call 0 [.slot 0, .slot 1])) none (.idx (.idx (.slot 0) (.slot 2)) (.cst (.int 3))) [2]])]
def d__law_written : List D → M D := denM (tab [d__law_rows_by]) 1000 2 3 c__law_written
def c__law_shown : List S := [.ret (.mth .join true (.cst (.str [32])) [.comp (.name 2) (.ival (.mth .split true (.slot 1) [.cst (.str [32])])) none (.call 0 [.slot 0, .slot 2]) [2]])]
def d__law_shown : List D → M D := denM (tab [d__law_written]) 1000 2 3 c__law_shown
def c__law_longer : List S := [.setO 2 (.lst []), .forS (.name 3) (.ival (.slot 1)) [.ext 2 (.comp (.name 4) (.ival (.call 0 [.slot 0])) none (.bin .add (.slot 3) (.slot 4)) [4])], .ret (.slot 2)]
def d__law_longer : List D → M D := denM (tab [d__law_letters]) 1000 2 5 c__law_longer
def c__law_power : List S := [.set 2 (.cst (.int 1)), .forS (.name 3) (.irng [.slot 1]) [.set 2 (.bin .mul (.slot 2) (.slot 0))], .ret (.slot 2)]
def d__law_power : List D → M D := denM (tab []) 1000 2 4 c__law_power
def c__law_table : List S := [.set 3 (.sl (.idx (.lst [.cst (.str [66, 67, 65]), .cst (.str [68, 69, 70]), .cst (.str [71, 72, 66])]) (.call 0 [.slot 0, .bin .add (.slot 1) (.cst (.int 7)), .cst (.int 3)])) none (some (.bin .add (.cst (.int 2)) (.blt .int1 [.bin .eq (.call 0 [.slot 0, .slot 1, .cst (.int 3)]) (.cst (.int 0))])))), .set 4 (.sl (.cst (.str [97, 98, 99, 100, 101, 102, 103, 104, 105, 106, 107, 108, 109, 110, 111, 112, 113, 114, 115, 116, 117, 118, 119, 120, 121, 122])) (some (.call 0 [.slot 0, .bin .add (.slot 1) (.cst (.int 8)), .cst (.int 23)])) none), .setO 5 (.lst []), .forS (.name 6) (.ival (.lst [.cst (.str [97]), .cst (.str [98]), .cst (.str [99]), .cst (.str [97, 98]), .cst (.str [98, 97]), .cst (.str [97, 39]), .cst (.str [97, 98, 99]), .cst (.str [98, 98]), .cst (.str [100]), .cst (.str [99, 97])])) [.app 5 (.mth .join true (.cst (.str [])) [.comp (.name 15) (.ival (.slot 6)) none (.ite (.bin .ne (.slot 15) (.cst (.str [39]))) (.idx (.slot 4) (.mth .index true (.cst (.str [97, 98, 99, 100])) [.slot 15])) (.slot 15)) [15]])], .setO 7 (.lst []), .forS (.many [8, 9]) (.ienum (.slot 3)) [.app 7 (.tup [.cst .non, .slot 9, .cst .non, .idx (.slot 5) (.call 0 [.slot 0, .bin .add (.bin .add (.slot 1) (.cst (.int 1))) (.slot 8), .cst (.int 10)])])], .forS (.name 8) (.irng [.call 0 [.slot 0, .bin .add (.slot 1) (.cst (.int 5)), .bin .sub (.bin .add (.slot 2) (.cst (.int 1))) (.blt .len [.slot 3])]]) [.set 10 (.bin .add (.bin .add (.slot 1) (.cst (.int 10))) (.bin .mul (.cst (.int 6)) (.slot 8))), .set 11 (.idx (.lst [.cst .non, .cst (.str [35]), .idx (.slot 3) (.cst (.int 0)), .idx (.slot 3) (.neg (.cst (.int 1)))]) (.call 0 [.slot 0, .slot 10, .cst (.int 4)])), .set 12 (.idx (.lst [.cst .non, .cst (.str [35]), .idx (.slot 3) (.cst (.int 0)), .idx (.slot 3) (.neg (.cst (.int 1)))]) (.call 0 [.slot 0, .bin .add (.slot 10) (.cst (.int 1)), .cst (.int 4)])), .set 13 (.tup [.slot 11, .idx (.slot 3) (.call 0 [.slot 0, .bin .add (.slot 10) (.cst (.int 2)), .blt .len [.slot 3]]), .slot 12, .idx (.slot 5) (.call 0 [.slot 0, .bin .add (.slot 10) (.cst (.int 3)), .cst (.int 10)])]), .set 14 (.call 0 [.slot 0, .bin .add (.slot 10) (.cst (.int 4)), .bin .add (.blt .len [.slot 7]) (.cst (.int 1))]), .setO 7 (.bin .add (.bin .add (.sl (.slot 7) none (some (.slot 14))) (.lst [.slot 13])) (.sl (.slot 7) (some (.slot 14)) none))], .ret (.blt .tuple [.slot 7])]
def d__law_table : List D → M D := denM (tab [d__law_pick]) 1000 3 16 c__law_table
def c__law_words : List S := [.par [3, 4] [.lst [.cst (.str [])], .lst [.cst (.str [])]], .forS (.name 2) (.irng [.slot 1]) [.set 4 (.call 0 [.slot 0, .slot 4]), .set 3 (.bin .add (.slot 3) (.slot 4))], .ret (.slot 3)]
def d__law_words : List D → M D := denM (tab [d__law_longer]) 1000 2 5 c__law_words
def c_is_neighbour : List S := [.ret (.or (.bin .is_ (.slot 0) (.cst .non)) (.and (.isi (.slot 0) .str) (.and (.bin .eq (.blt .len [.slot 0]) (.cst (.int 1))) (.bin .in_ (.slot 0) (.bin .add (.cst (.str [65, 66, 67, 68, 69, 70, 71, 72])) (.cst (.str [35])))))))]
def d_is_neighbour : List D → M D := denM (tab []) 1000 1 1 c_is_neighbour
def c_is_text : List S := [.ret (.and (.isi (.slot 0) .str) (.blt .all [.comp (.name 1) (.ival (.slot 0)) none (.bin .in_ (.slot 1) (.bin .add (.cst (.str [97, 98, 99, 100, 101, 102, 103, 104, 105, 106, 107, 108, 109, 110, 111, 112, 113, 114, 115, 116, 117, 118, 119, 120, 121, 122])) (.cst (.str [39])))) [1]]))]
def d_is_text : List D → M D := denM (tab []) 1000 1 2 c_is_text
def c_is_row : List S := [.ifS (.or (.not (.isi (.slot 0) .tuple)) (.or (.bin .ne (.blt .len [.slot 0]) (.cst (.int 4))) (.or (.not (.call 0 [.idx (.slot 0) (.cst (.int 0))])) (.not (.call 0 [.idx (.slot 0) (.cst (.int 2))]))))) [.ret (.cst (.bl false))] [], .ifS (.or (.not (.isi (.idx (.slot 0) (.cst (.int 1))) .str)) (.or (.bin .ne (.blt .len [.idx (.slot 0) (.cst (.int 1))]) (.cst (.int 1))) (.bin .notin (.idx (.slot 0) (.cst (.int 1))) (.cst (.str [65, 66, 67, 68, 69, 70, 71, 72]))))) [.ret (.cst (.bl false))] [], .ret (.and (.call 1 [.idx (.slot 0) (.cst (.int 3))]) (.chain .le .le (.cst (.int 1)) (.blt .len [.idx (.slot 0) (.cst (.int 3))]) (.cst (.int 3))))]
def d_is_row : List D → M D := denM (tab [d_is_neighbour, d_is_text]) 1000 1 1 c_is_row
def c_is_table : List S := [.ifS (.or (.not (.isi (.slot 0) .tuple)) (.or (.not (.chain .le .le (.cst (.int 1)) (.blt .len [.slot 0]) (.cst (.int 10)))) (.not (.blt .all [.comp (.name 2) (.ival (.slot 0)) none (.call 0 [.slot 2]) [2]])))) [.ret (.cst (.bl false))] [], .set 1 (.comp (.name 2) (.ival (.slot 0)) (some (.and (.bin .is_ (.idx (.slot 2) (.cst (.int 0))) (.cst .non)) (.bin .is_ (.idx (.slot 2) (.cst (.int 2))) (.cst .non)))) (.idx (.slot 2) (.cst (.int 1))) [2]), .ret (.blt .all [.comp (.name 2) (.ival (.slot 0)) none (.bin .in_ (.idx (.slot 2) (.cst (.int 1))) (.slot 1)) [2]])]
def d_is_table : List D → M D := denM (tab [d_is_row]) 1000 1 3 c_is_table
def c_look_table : List S := [.ifS (.not (.call 0 [.slot 0])) [.raise 1] []]
def d_look_table : List D → M D := denM (tab [d_is_table]) 1000 1 1 c_look_table
def c_letters_of : List S := [.ret (.blt .sortedSet [.comp (.name 1) (.ival (.slot 0)) none (.idx (.slot 1) (.cst (.int 1))) [1]])]
def d_letters_of : List D → M D := denM (tab []) 1000 1 2 c_letters_of
def c_is_word_of : List S := [.ret (.and (.isi (.slot 1) .str) (.and (.bin .le (.blt .len [.slot 1]) (.cst (.int 24))) (.blt .all [.comp (.name 2) (.ival (.slot 1)) none (.bin .in_ (.slot 2) (.call 0 [.slot 0])) [2]])))]
def d_is_word_of : List D → M D := denM (tab [d_letters_of]) 1000 2 3 c_is_word_of
def c_are_words : List S := [.expr (.call 0 [.slot 0]), .ret (.and (.isi (.slot 1) .str) (.blt .all [.comp (.name 2) (.ival (.mth .split true (.slot 1) [.cst (.str [32])])) none (.call 1 [.slot 0, .slot 2]) [2]]))]
def d_are_words : List D → M D := denM (tab [d_look_table, d_is_word_of]) 1000 2 3 c_are_words
def c_goes : List S := [.ret (.and (.bin .eq (.idx (.slot 0) (.cst (.int 1))) (.slot 2)) (.and (.bin .in_ (.idx (.slot 0) (.cst (.int 0))) (.tup [.cst .non, .slot 1])) (.bin .in_ (.idx (.slot 0) (.cst (.int 2))) (.tup [.cst .non, .slot 3]))))]
def d_goes : List D → M D := denM (tab []) 1000 4 4 c_goes
def c_row_for : List S := [.ret (.idx (.comp (.many [4, 5]) (.ienum (.slot 0)) (some (.call 0 [.slot 5, .slot 1, .slot 2, .slot 3])) (.slot 4) [4, 5]) (.cst (.int 0)))]
def d_row_for : List D → M D := denM (tab [d_goes]) 1000 4 6 c_row_for
def c_told_by : List S := [.ret (.idx (.idx (.slot 0) (.call 0 [.slot 0, .slot 1, .slot 2, .slot 3])) (.cst (.int 3)))]
def d_told_by : List D → M D := denM (tab [d_row_for]) 1000 4 4 c_told_by
def c_look_whole : List S := [.ifS (.or (.not (.isi (.slot 0) .int)) (.or (.isi (.slot 0) .bool) (.not (.chain .le .le (.cst (.int 0)) (.slot 0) (.slot 1))))) [.raise 4] []]
def d_look_whole : List D → M D := denM (tab []) 1000 2 2 c_look_whole
def c_fits : List S := [.set 3 (.sl (.slot 0) (some (.slot 1)) (some (.bin .add (.slot 1) (.blt .len [.slot 2])))), .ret (.bin .eq (.sl (.slot 2) none (some (.blt .len [.slot 3]))) (.slot 3))]
def d_fits : List D → M D := denM (tab []) 1000 3 4 c_fits
def c_written_of : List S := [.set 2 (.bin .add (.bin .add (.cst (.str [35])) (.slot 1)) (.cst (.str [35]))), .ret (.mth .join true (.cst (.str [])) [.comp (.name 3) (.irng [.blt .len [.slot 1]]) none (.call 0 [.slot 0, .idx (.slot 2) (.slot 3), .idx (.slot 2) (.bin .add (.slot 3) (.cst (.int 1))), .idx (.slot 2) (.bin .add (.slot 3) (.cst (.int 2)))]) [3]])]
def d_written_of : List D → M D := denM (tab [d_told_by]) 1000 2 4 c_written_of
def c_never_used : List S := [.expr (.call 0 [.slot 0]), .set 1 (.bin .add (.call 1 [.slot 0]) (.lst [.cst (.str [35])])), .setO 2 (.lst []), .forS (.name 3) (.ival (.slot 1)) [.forS (.name 4) (.ival (.call 1 [.slot 0])) [.ext 2 (.comp (.name 6) (.ival (.slot 1)) none (.call 2 [.slot 0, .slot 3, .slot 4, .slot 6]) [6])]], .ret (.comp (.name 5) (.irng [.blt .len [.slot 0]]) (some (.bin .notin (.slot 5) (.slot 2))) (.slot 5) [5])]
def d_never_used : List D → M D := denM (tab [d_look_table, d_letters_of, d_row_for]) 1000 1 7 c_never_used
def c_line_written : List S := [.expr (.call 0 [.slot 0]), .ifS (.not (.call 1 [.slot 0, .slot 1])) [.raise 2] [], .set 2 (.mth .split true (.slot 1) [.cst (.str [32])]), .ret (.mth .join true (.cst (.str [32])) [.comp (.name 3) (.ival (.slot 2)) none (.call 2 [.slot 0, .slot 3]) [3]])]
def d_line_written : List D → M D := denM (tab [d_look_table, d_are_words, d_written_of]) 1000 2 4 c_line_written
def c_ways_of : List S := [.set 2 (.cst (.int 1)), .forS (.name 3) (.irng [.slot 1]) [.set 2 (.bin .mul (.slot 2) (.slot 0))], .ret (.slot 2)]
def d_ways_of : List D → M D := denM (tab []) 1000 2 4 c_ways_of
end WB.C
namespace WB.C
open WB
end WB.C
namespace WB.C
open WB
def c_readings : List S := [.ifS (.bin .eq (.idx (.slot 3) (.cst (.int 1))) (.cst (.str [35]))) [.ret (.blt .int1 [.bin .eq (.slot 2) (.blt .len [.slot 1])])] [], .ifS (.nin false (.tup [.slot 2, .slot 3]) (.slot 4)) [.set 5 (.cst (.int 0)), .forS (.name 6) (.ival (.bin .add (.call 0 [.slot 0]) (.lst [.cst (.str [35])]))) [.set 7 (.call 1 [.slot 0, .idx (.slot 3) (.cst (.int 0)), .idx (.slot 3) (.cst (.int 1)), .slot 6]), .ifS (.and (.bin .lt (.slot 5) (.cst (.int 2))) (.bin .eq (.sl (.slot 1) (some (.slot 2)) (some (.bin .add (.slot 2) (.blt .len [.slot 7])))) (.slot 7))) [.set 5 (.bin .add (.slot 5) (.call 2 [.slot 0, .slot 1, .bin .add (.slot 2) (.blt .len [.slot 7]), .tup [.idx (.slot 3) (.cst (.int 1)), .slot 6], .slot 4]))] []], .nput (.slot 4) (.tup [.slot 2, .slot 3]) (.blt .min2 [.slot 5, .cst (.int 2)])] [], .ret (.ngt (.slot 4) (.tup [.slot 2, .slot 3]))]
def d_readings : Nat → List D → M D
  | 0 => fun _ => M.fail
  | n + 1 => denM (tab [d_letters_of, d_told_by, d_readings n]) 1000 5 8 c_readings
def c_can_come : List S := [.ifS (.bin .ge (.slot 2) (.blt .len [.slot 1])) [.ret (.cst (.bl true))] [], .set 6 (.tup [.slot 2, .slot 3, .slot 4]), .ifS (.bdin false (.slot 6) (.slot 5)) [.bput (.slot 5) (.slot 6) (.cst (.bl false)), .forS (.name 7) (.ival (.bin .add (.call 0 [.slot 0]) (.lst [.cst (.str [35])]))) [.set 8 (.call 1 [.slot 0, .slot 3, .slot 4, .slot 7]), .set 9 (.bin .add (.slot 2) (.blt .len [.slot 8])), .ifS (.and (.call 2 [.slot 1, .slot 2, .slot 8]) (.or (.bin .ge (.slot 9) (.blt .len [.slot 1])) (.and (.bin .ne (.slot 7) (.cst (.str [35]))) (.call 3 [.slot 0, .slot 1, .slot 9, .slot 4, .slot 7, .slot 5])))) [.bput (.slot 5) (.slot 6) (.cst (.bl true))] []]] [], .ret (.bdgt (.slot 5) (.slot 6))]
def d_can_come : Nat → List D → M D
  | 0 => fun _ => M.fail
  | n + 1 => denM (tab [d_letters_of, d_told_by, d_fits, d_can_come n]) 1000 6 10 c_can_come
def c_row_shares : List S := [.expr (.call 0 [.slot 0]), .expr (.call 1 [.slot 1, .cst (.int 24)]), .set 2 (.call 2 [.slot 0]), .setO 3 (.bin .mul (.lst [.cst (.int 0)]) (.blt .len [.slot 0])), .forS (.name 4) (.irng [.slot 1]) [.forS (.name 5) (.ival (.ite (.bin .gt (.slot 4) (.cst (.int 0))) (.slot 2) (.lst [.cst (.str [35])]))) [.forS (.name 6) (.ival (.slot 2)) [.forS (.name 7) (.ival (.ite (.bin .lt (.slot 4) (.bin .sub (.slot 1) (.cst (.int 1)))) (.slot 2) (.lst [.cst (.str [35])]))) [.set 8 (.bin .add (.bin .add (.cst (.int 1)) (.blt .int1 [.bin .ne (.slot 5) (.cst (.str [35]))])) (.blt .int1 [.bin .ne (.slot 7) (.cst (.str [35]))])), .set 9 (.call 3 [.slot 0, .slot 5, .slot 6, .slot 7]), .lset 3 (.slot 9) (.bin .add (.idx (.slot 3) (.slot 9)) (.call 4 [.blt .len [.slot 2], .bin .sub (.slot 1) (.slot 8)]))]]]], .ret (.slot 3)]
def d_row_shares : List D → M D := denM (tab [d_look_table, d_look_whole, d_letters_of, d_row_for, d_ways_of]) 1000 2 10 c_row_shares
end WB.C
namespace WB.K60
open WB WB.C
def b_law_1 : List S := [.bset (.idx (.slot 4) (.blt .len [.slot 5])) (.slot 9) (.bin .add (.bidx (.idx (.slot 4) (.blt .len [.slot 5])) (.slot 9)) (.cst (.int 1)))]
def b_law_2 : List S := [.forS (.name 9) (.ival (.call 3 [.slot 1, .slot 5])) b_law_1]
def c_law : List S := [.set 1 (.call 0 [.slot 0, .cst (.int 10), .cst (.int 7)]), .set 2 (.blt .len [.call 1 [.slot 1]]), .set 3 (.ite (.bin .eq (.slot 2) (.cst (.int 2))) (.cst (.int 4)) (.cst (.int 3))), .set 4 (.comp (.name 6) (.irng [.bin .add (.slot 3) (.cst (.int 1))]) none (.box (.bin .mul (.lst [.cst (.int 0)]) (.blt .len [.slot 1]))) [6]), .forS (.name 5) (.ival (.call 2 [.slot 1, .slot 3])) b_law_2, .ifS (.dcmp false (.comp (.name 6) (.irng [.bin .add (.slot 3) (.cst (.int 1))]) none (.call 4 [.slot 1, .slot 6]) [6]) (.slot 4)) [.ret (.cst (.bl false))] [], .set 6 (.bin .add (.cst (.int 3)) (.call 5 [.slot 0, .cst (.int 90), .cst (.int 22)])), .set 7 (.call 4 [.slot 1, .slot 6]), .ifS (.bin .ne (.blt .sum [.slot 7]) (.bin .mul (.slot 6) (.call 6 [.slot 2, .slot 6]))) [.ret (.cst (.bl false))] [], .set 8 (.comp (.name 10) (.irng [.cst (.int 1), .cst (.int 4)]) none (.call 4 [.slot 1, .slot 10]) [10]), .ret (.bin .eq (.comp (.name 9) (.irng [.blt .len [.slot 1]]) (some (.bin .eq (.blt .sum [.comp (.name 11) (.ival (.slot 8)) none (.idx (.slot 11) (.slot 9)) [11]]) (.cst (.int 0)))) (.slot 9) [9]) (.call 7 [.slot 1]))]
def d_law : List D → M D := denM (tab [d__law_table, d__law_letters, d__law_words, d__law_rows_by, d_row_shares, d__law_pick, d__law_power, d_never_used]) 1000 1 12 c_law
end WB.K60
namespace WB.C
open WB
theorem forL_inv {turn : D → Slots → M Fl} {I : Nat → Slots → Prop} : ∀ (xs : List D) (k : Nat) (m : Slots), I k m → (∀ i x m, xs[i]? = some x → I (k + i) m → ∃ m', turn x m = pure (.next m') ∧ I (k + i + 1) m') → ∃ m', forL turn xs m = pure (.next m') ∧ I (k + xs.length) m'
  | [], k, m, h, _ => ⟨m, rfl, h⟩
  | x :: xs, k, m, h, hs => by
    obtain ⟨m1, e1, i1⟩ := hs 0 x m rfl h
    obtain ⟨m2, e2, i2⟩ := forL_inv xs (k + 1) m1 i1 fun i y m' hy im => by
      have e : k + 1 + i = k + (i + 1) := by omega
      rw [e] at im ⊢
      exact hs (i + 1) y m' (by simpa using hy) im
    refine ⟨m2, ?_, by have e : k + (x :: xs).length = k + 1 + xs.length := by simp; omega
                       rw [e]; exact i2⟩
    show (turn x m >>= _) = _
    rw [e1, pure_bnd]
    exact e2
theorem shut_pure {α : Type} (a : α) : shut (pure a) = (pure a : M α) := rfl
section
variable {Φ : Fns} {F : Nat} {m m' : Slots}
def L1 {α β : Type} (f : α → M β) (x : M α) : M β := x >>= f
def L2 {α β γ : Type} (f : α → β → M γ) (x : M α) (y : M β) : M γ := x >>= fun a => y >>= fun b => f a b
def L3 {α β γ δ : Type} (f : α → β → γ → M δ) (x : M α) (y : M β) (z : M γ) : M δ := x >>= fun a => y >>= fun b => z >>= fun c => f a b c
@[simp] theorem L1_pure {α β : Type} (f : α → M β) (a : α) : L1 f (pure a) = f a := rfl
@[simp] theorem L2_pure {α β γ : Type} (f : α → β → M γ) (a : α) (b : β) : L2 f (pure a) (pure b) = f a b := rfl
@[simp] theorem L3_pure {α β γ δ : Type} (f : α → β → γ → M δ) (a : α) (b : β) (c : γ) : L3 f (pure a) (pure b) (pure c) = f a b c := rfl
def getS : Option (Option D) → M D
  | some (some d) => pure d
  | _ => M.fail
@[simp] theorem getS_some (d : D) : getS (some (some d)) = pure d := rfl
@[simp] theorem v_slot (i : Nat) : evE Φ (.slot i) m = getS m[i]? := by
  show (match m[i]? with | some (some d) => pure d | _ => M.fail) = _
  rcases m[i]? with _ | _ | d <;> rfl
@[simp] theorem v_cst (d : D) : evE Φ (.cst d) m = pure d := rfl
@[simp] theorem v_bin (o : B2) (a b : E) : evE Φ (.bin o a b) m = L2 (opM o) (evE Φ a m) (evE Φ b m) := rfl
def negM : D → M D
  | .int i => pure (.int (-i))
  | _ => M.fail
@[simp] theorem negM_int (i : Int) : negM (.int i) = pure (.int (-i)) := rfl
@[simp] theorem v_neg (a : E) : evE Φ (.neg a) m = L1 negM (evE Φ a m) := by
  show (evE Φ a m >>= fun x => match x with | .int i => pure (.int (-i)) | _ => M.fail) = (evE Φ a m >>= negM)
  have : (fun x : D => match x with | .int i => (pure (.int (-i)) : M D) | _ => M.fail) = negM := by
    funext x
    cases x <;> rfl
  rw [this]
def chnM (Φ : Fns) (o p : B2) (c : E) (m : Slots) (x y : D) : M D := opM o x y >>= fun z => z.asB >>= fun t => if t then evE Φ c m >>= fun w => opM p y w else pure (.bl false)
@[simp] theorem v_chain (o p : B2) (a b c : E) : evE Φ (.chain o p a b c) m = L2 (chnM Φ o p c m) (evE Φ a m) (evE Φ b m) := rfl
def andM (x y : M D) : M D := x >>= fun d => d.asB >>= fun t => if t then y else pure (.bl false)
def orM (x y : M D) : M D := x >>= fun d => d.asB >>= fun t => if t then pure (.bl true) else y
def iteM {α : Type} (x : M D) (y z : M α) : M α := x >>= fun d => d.asB >>= fun t => if t then y else z
def notM (x : M D) : M D := x >>= fun d => d.asB >>= fun t => pure (.bl (!t))
@[simp] theorem andM_t (y : M D) : andM (pure (.bl true)) y = y := rfl
@[simp] theorem andM_f (y : M D) : andM (pure (.bl false)) y = pure (.bl false) := rfl
theorem andM_b (b c : Bool) : andM (pure (.bl b)) (pure (.bl c)) = pure (.bl (b && c)) := by cases b <;> rfl
@[simp] theorem orM_t (y : M D) : orM (pure (.bl true)) y = pure (.bl true) := rfl
@[simp] theorem orM_f (y : M D) : orM (pure (.bl false)) y = y := rfl
theorem orM_b (b c : Bool) : orM (pure (.bl b)) (pure (.bl c)) = pure (.bl (b || c)) := by cases b <;> rfl
@[simp] theorem notM_b (b : Bool) : notM (pure (.bl b)) = pure (.bl (!b)) := rfl
@[simp] theorem iteM_t {α : Type} (y z : M α) : iteM (pure (.bl true)) y z = y := rfl
@[simp] theorem iteM_f {α : Type} (y z : M α) : iteM (pure (.bl false)) y z = z := rfl
theorem iteM_b {α : Type} (b : Bool) (y z : M α) : iteM (pure (.bl b)) y z = if b then y else z := by cases b <;> rfl
@[simp] theorem v_and (a b : E) : evE Φ (.and a b) m = andM (evE Φ a m) (evE Φ b m) := rfl
@[simp] theorem v_or (a b : E) : evE Φ (.or a b) m = orM (evE Φ a m) (evE Φ b m) := rfl
@[simp] theorem v_not (a : E) : evE Φ (.not a) m = notM (evE Φ a m) := rfl
@[simp] theorem v_ite (c a b : E) : evE Φ (.ite c a b) m = iteM (evE Φ c m) (evE Φ a m) (evE Φ b m) := rfl
def tupM (xs : List D) : M D := if xs.length ≤ 1000 then pure (.tup xs) else M.fail
def lstM (xs : List D) : M D := if xs.length ≤ 1000 then pure (.lst xs) else M.fail
@[simp] theorem v_tup (es : List E) : evE Φ (.tup es) m = L1 tupM (evA Φ es m) := rfl
@[simp] theorem v_lst (es : List E) : evE Φ (.lst es) m = L1 lstM (evA Φ es m) := rfl
@[simp] theorem v_idx (a i : E) : evE Φ (.idx a i) m = L2 idxM (evE Φ a m) (evE Φ i m) := rfl
@[simp] theorem v_sl (a : E) (lo hi : Option E) : evE Φ (.sl a lo hi) m = L3 cutM (evE Φ a m) (evO Φ lo m) (evO Φ hi m) := rfl
@[simp] theorem v_rev (a : E) : evE Φ (.rev a) m = L1 revM (evE Φ a m) := rfl
def isM (t : Ty) (x : D) : M D := isD x t >>= fun b => pure (.bl b)
@[simp] theorem v_isi (a : E) (t : Ty) : evE Φ (.isi a t) m = L1 (isM t) (evE Φ a m) := rfl
@[simp] theorem v_call (k : Nat) (es : List E) : evE Φ (.call k es) m = L1 (Φ k) (evA Φ es m) := rfl
@[simp] theorem v_blt (f : BF) (es : List E) : evE Φ (.blt f es) m = L1 (bltM f) (evA Φ es m) := rfl
def ifTy (s : Bool) (x : D) : M D := if tyB s x then pure x else M.fail
@[simp] theorem ifTy_s (t : List Nat) : ifTy true (.str t) = pure (.str t) := rfl
@[simp] theorem ifTy_l (t : List D) : ifTy false (.lst t) = pure (.lst t) := rfl
@[simp] theorem v_mth (f : MF) (s : Bool) (a : E) (es : List E) : evE Φ (.mth f s a es) m = L2 (mthM f) (L1 (ifTy s) (evE Φ a m)) (evA Φ es m) := by
  show (evE Φ a m >>= fun x => if tyB s x then evA Φ es m >>= fun xs => mthM f x xs else M.fail) = ((evE Φ a m >>= ifTy s) >>= fun x => evA Φ es m >>= fun xs => mthM f x xs)
  rw [bnd_assoc]
  congr 1
  funext x
  unfold ifTy
  split <;> rfl
def consM (x : D) (xs : List D) : M (List D) := pure (x :: xs)
@[simp] theorem consM_pure (x : D) (xs : List D) : consM x xs = pure (x :: xs) := rfl
@[simp] theorem v_anil : evA Φ [] m = pure [] := rfl
@[simp] theorem v_acons (e : E) (es : List E) : evA Φ (e :: es) m = L2 consM (evE Φ e m) (evA Φ es m) := rfl
def someI (d : D) : M (Option Int) := intM d >>= fun i => pure (some i)
@[simp] theorem someI_int (i : Int) : someI (.int i) = pure (some i) := rfl
@[simp] theorem v_onone : evO Φ none m = pure none := rfl
@[simp] theorem v_osome (e : E) : evO Φ (some e) m = L1 someI (evE Φ e m) := rfl
@[simp] theorem v_cnone : evC Φ none m = pure true := rfl
@[simp] theorem v_csome (e : E) : evC Φ (some e) m = L1 D.asB (evE Φ e m) := rfl
@[simp] theorem asB_bl (b : Bool) : D.asB (.bl b) = pure b := rfl
@[simp] theorem v_ival (a : E) : evI Φ (.ival a) m = L1 itemsM (evE Φ a m) := rfl
@[simp] theorem v_irng (es : List E) : evI Φ (.irng es) m = L1 rngM (evA Φ es m) := rfl
def enuM (d : D) : M (List D) := itemsM d >>= fun xs => pure (enumD 0 xs)
@[simp] theorem v_ienum (a : E) : evI Φ (.ienum a) m = L1 enuM (evE Φ a m) := rfl
@[simp] theorem enuM_tup (xs : List D) : enuM (.tup xs) = pure (enumD 0 xs) := rfl
@[simp] theorem enuM_lst (xs : List D) : enuM (.lst xs) = pure (enumD 0 xs) := rfl
@[simp] theorem enuM_str (s : List Nat) : enuM (.str s) = pure (enumD 0 (signs s)) := rfl
@[simp] theorem items_tup (xs : List D) : itemsM (.tup xs) = pure xs := rfl
@[simp] theorem items_lst (xs : List D) : itemsM (.lst xs) = pure xs := rfl
@[simp] theorem items_str (s : List Nat) : itemsM (.str s) = pure (signs s) := rfl
def retM (d : D) : M Fl := pure (.ret d)
@[simp] theorem retM_pure (d : D) : retM d = pure (.ret d) := rfl
@[simp] theorem x_ret (e : E) : exS Φ F (.ret e) m = L1 retM (evE Φ e m) := rfl
@[simp] theorem x_retN : exS Φ F .retN m = pure (.ret .non) := rfl
def setM (m : Slots) (i : Nat) (d : D) : M Fl := pure (.next (m.set i (some d)))
@[simp] theorem setM_pure (i : Nat) (d : D) : setM m i d = pure (.next (m.set i (some d))) := rfl
@[simp] theorem x_set (i : Nat) (e : E) : exS Φ F (.set i e) m = L1 (setM m i) (evE Φ e m) := rfl
def setOM (m : Slots) (i : Nat) (d : D) : M Fl := if isLs d then pure (.next (m.set i (some d))) else M.fail
@[simp] theorem setOM_lst (i : Nat) (xs : List D) : setOM m i (.lst xs) = pure (.next (m.set i (some (.lst xs)))) := rfl
@[simp] theorem x_setO (i : Nat) (e : E) : exS Φ F (.setO i e) m = L1 (setOM m i) (evE Φ e m) := rfl
def bndS (m : Slots) (is : List Nat) (d : D) : M Fl := bindD (.many is) d m >>= fun m' => pure (.next m')
@[simp] theorem x_setT (is : List Nat) (e : E) : exS Φ F (.setT is e) m = L1 (bndS m is) (evE Φ e m) := rfl
def parM (m : Slots) (is : List Nat) (xs : List D) : M Fl := if xs.length = is.length then pure (.next ((is.zip xs).foldl (fun m p => m.set p.1 (some p.2)) m)) else M.fail
@[simp] theorem x_par (is : List Nat) (es : List E) : exS Φ F (.par is es) m = L1 (parM m is) (evA Φ es m) := rfl
def appS (m : Slots) (i : Nat) (x y : D) : M Fl := appM x y >>= fun z => pure (.next (m.set i (some z)))
@[simp] theorem x_app (i : Nat) (e : E) : exS Φ F (.app i e) m = L2 (appS m i) (getS m[i]?) (evE Φ e m) := by
  show (slotM m i >>= _) = (getS m[i]? >>= _)
  have : slotM m i = getS m[i]? := by unfold slotM; rcases m[i]? with _ | _ | d <;> rfl
  rw [this]; rfl
def extS (m : Slots) (i : Nat) (x y : D) : M Fl := extM x y >>= fun z => pure (.next (m.set i (some z)))
@[simp] theorem x_ext (i : Nat) (e : E) : exS Φ F (.ext i e) m = L2 (extS m i) (getS m[i]?) (evE Φ e m) := by
  show (slotM m i >>= _) = (getS m[i]? >>= _)
  have : slotM m i = getS m[i]? := by unfold slotM; rcases m[i]? with _ | _ | d <;> rfl
  rw [this]; rfl
theorem appS_lst (i : Nat) (xs : List D) (y : D) (h : xs.length < sz) : appS m i (.lst xs) y = pure (.next (m.set i (some (.lst (xs ++ [y]))))) := by
  unfold appS appM; dsimp only; rw [if_pos h]; rfl
theorem extS_lst (i : Nat) (xs ys : List D) (h : xs.length + ys.length ≤ sz) : extS m i (.lst xs) (.lst ys) = pure (.next (m.set i (some (.lst (xs ++ ys))))) := by
  unfold extS extM; dsimp only; rw [if_pos h]; rfl
@[simp] theorem x_if (c : E) (a b : List S) : exS Φ F (.ifS c a b) m = iteM (evE Φ c m) (exL Φ F a m) (exL Φ F b m) := rfl
def forX (Φ : Fns) (F : Nat) (t : Tg) (body : List S) (m : Slots) (xs : List D) : M Fl := forL (fun x m => bindD t x m >>= fun m' => exL Φ F body m') xs m
@[simp] theorem x_for (t : Tg) (it : E) (body : List S) : exS Φ F (.forS t it body) m = L1 (forX Φ F t body m) (evI Φ it m) := rfl
@[simp] theorem x_brk : exS Φ F .brk m = pure (.brk m) := rfl
@[simp] theorem x_cont : exS Φ F .cont m = pure (.cont m) := rfl
@[simp] theorem x_pass : exS Φ F .pass m = pure (.next m) := rfl
@[simp] theorem x_raise (k : Nat) : exS Φ F (.raise k) m = M.throw k := rfl
def dropM (m : Slots) (_ : D) : M Fl := pure (.next m)
@[simp] theorem dropM_pure (d : D) : dropM m d = pure (.next m) := rfl
@[simp] theorem x_expr (e : E) : exS Φ F (.expr e) m = L1 (dropM m) (evE Φ e m) := rfl
@[simp] theorem x_tryK (b : TB) (k e : Nat) : exS Φ F (.tryK b k e) m = keep (exT Φ b m) k e m := rfl
def seqM (Φ : Fns) (F : Nat) (r : List S) (x : M Fl) : M Fl := x >>= fun f => match f with
  | .next m' => exL Φ F r m'
  | f => pure f
@[simp] theorem x_nil : exL Φ F [] m = pure (.next m) := rfl
@[simp] theorem x_cons (s : S) (r : List S) : exL Φ F (s :: r) m = seqM Φ F r (exS Φ F s m) := rfl
@[simp] theorem seq_next (r : List S) : seqM Φ F r (pure (.next m)) = exL Φ F r m := rfl
@[simp] theorem seq_ret (r : List S) (d : D) : seqM Φ F r (pure (.ret d)) = pure (.ret d) := rfl
@[simp] theorem seq_brk (r : List S) : seqM Φ F r (pure (.brk m)) = pure (.brk m) := rfl
@[simp] theorem seq_cont (r : List S) : seqM Φ F r (pure (.cont m)) = pure (.cont m) := rfl
@[simp] theorem seq_throw (r : List S) (k : Nat) : seqM Φ F r (M.throw k) = M.throw k := rfl
def endM (f : Fl) : M D := match f with
  | .ret d => pure d
  | .next _ => pure .non
  | _ => M.fail
@[simp] theorem end_ret (d : D) : endM (.ret d) = pure d := rfl
@[simp] theorem end_next : endM (.next m) = pure .non := rfl
theorem den1 (nl : Nat) (body : List S) (a : D) : denM Φ F 1 nl body [a] = L1 endM (exL Φ F body (some a :: List.replicate (nl - 1) none)) := rfl
theorem den2 (nl : Nat) (body : List S) (a b : D) : denM Φ F 2 nl body [a, b] = L1 endM (exL Φ F body (some a :: some b :: List.replicate (nl - 2) none)) := rfl
theorem den3 (nl : Nat) (body : List S) (a b c : D) : denM Φ F 3 nl body [a, b, c] = L1 endM (exL Φ F body (some a :: some b :: some c :: List.replicate (nl - 3) none)) := rfl
theorem den4 (nl : Nat) (body : List S) (a b c d : D) : denM Φ F 4 nl body [a, b, c, d] = L1 endM (exL Φ F body (some a :: some b :: some c :: some d :: List.replicate (nl - 4) none)) := rfl
@[simp] theorem L1_throw {α β : Type} (f : α → M β) (k : Nat) : L1 f (M.throw k) = M.throw k := rfl
@[simp] theorem tab0 (f : List D → M D) (l : List (List D → M D)) : tab (f :: l) 0 = f := rfl
@[simp] theorem tab1 (f g : List D → M D) (l : List (List D → M D)) : tab (f :: g :: l) 1 = g := rfl
@[simp] theorem tab2 (f g h : List D → M D) (l : List (List D → M D)) : tab (f :: g :: h :: l) 2 = h := rfl
@[simp] theorem tab3 (f g h i : List D → M D) (l : List (List D → M D)) : tab (f :: g :: h :: i :: l) 3 = i := rfl
@[simp] theorem o_addI (i j : Int) : opM .add (.int i) (.int j) = pure (.int (i + j)) := rfl
@[simp] theorem o_subI (i j : Int) : opM .sub (.int i) (.int j) = pure (.int (i - j)) := rfl
theorem o_addS (a b : List Nat) (h : a.length + b.length ≤ sz) : opM .add (.str a) (.str b) = pure (.str (a ++ b)) := by unfold opM; dsimp only; rw [if_pos h]
theorem o_addL (a b : List D) (h : a.length + b.length ≤ sz) : opM .add (.lst a) (.lst b) = pure (.lst (a ++ b)) := by unfold opM; dsimp only; rw [if_pos h]
theorem o_mulI (i j : Int) (h : (inR i || inR j) = true) : opM .mul (.int i) (.int j) = pure (.int (i * j)) := by unfold opM; dsimp only; rw [if_pos h]
theorem o_fdiv (i j : Int) (h : 0 < j ∧ j < 1073741824) : opM .fdiv (.int i) (.int j) = pure (.int (i / j)) := by unfold opM; dsimp only; rw [if_pos h]
theorem o_mod (i j : Int) (h : 0 < j) : opM .mod (.int i) (.int j) = pure (.int (i % j)) := by unfold opM; dsimp only; rw [if_pos h]
@[simp] theorem o_ltI (i j : Int) : opM .lt (.int i) (.int j) = pure (.bl (decide (i < j))) := rfl
@[simp] theorem o_leI (i j : Int) : opM .le (.int i) (.int j) = pure (.bl (decide (i ≤ j))) := rfl
@[simp] theorem o_gtI (i j : Int) : opM .gt (.int i) (.int j) = pure (.bl (decide (j < i))) := rfl
@[simp] theorem o_geI (i j : Int) : opM .ge (.int i) (.int j) = pure (.bl (decide (j ≤ i))) := rfl
theorem o_eq {x y : D} {b : Bool} (h : eqD dp x y = some b) : opM .eq x y = pure (.bl b) := by
  have : opM .eq x y = (eqM x y >>= fun b => pure (.bl b)) := by cases x <;> rfl
  rw [this]; unfold eqM; rw [h]; rfl
theorem o_ne {x y : D} {b : Bool} (h : eqD dp x y = some b) : opM .ne x y = pure (.bl (!b)) := by
  have : opM .ne x y = (eqM x y >>= fun b => pure (.bl (!b))) := by cases x <;> rfl
  rw [this]; unfold eqM; rw [h]; rfl
@[simp] theorem o_isNN : opM .is_ .non .non = pure (.bl true) := rfl
@[simp] theorem o_isSN (s : List Nat) : opM .is_ (.str s) .non = pure (.bl false) := rfl
@[simp] theorem o_notNN : opM .isnot .non .non = pure (.bl false) := rfl
@[simp] theorem o_notSN (s : List Nat) : opM .isnot (.str s) .non = pure (.bl true) := rfl
theorem o_in {x y : D} {b : Bool} (h : inM x y = pure b) : opM .in_ x y = pure (.bl b) := by
  have : opM .in_ x y = (inM x y >>= fun b => pure (.bl b)) := by cases x <;> rfl
  rw [this, h]; rfl
theorem o_notin {x y : D} {b : Bool} (h : inM x y = pure b) : opM .notin x y = pure (.bl (!b)) := by
  have : opM .notin x y = (inM x y >>= fun b => pure (.bl (!b))) := by cases x <;> rfl
  rw [this, h]; rfl
@[simp] theorem b_blt1 (f : BF) (x : D) : bltM f [x] = blt1M f x := rfl
@[simp] theorem b_lenS (xs : List D) : blt1M .len (.scr xs) = pure (.int xs.length) := rfl
@[simp] theorem b_lenL (xs : List D) : blt1M .len (.lst xs) = pure (.int xs.length) := rfl
@[simp] theorem b_lenT (xs : List D) : blt1M .len (.tup xs) = pure (.int xs.length) := rfl
theorem b_lenX (s : List Nat) (h : s.length ≤ sz) : blt1M .len (.str s) = pure (.int s.length) := by show lenM (.str s) = _; unfold lenM; dsimp only; rw [if_pos h]
@[simp] theorem b_tupleL (xs : List D) : blt1M .tuple (.lst xs) = pure (.tup xs) := rfl
@[simp] theorem b_int (i : Int) : blt1M .int1 (.int i) = pure (.int i) := rfl
@[simp] theorem b_intB (b : Bool) : blt1M .int1 (.bl b) = pure (.int (b2n b)) := rfl
theorem i_scr {xs : List D} {k : Int} {d : D} (h : atD xs k = some d) : idxM (.scr xs) (.int k) = pure d := by unfold idxM; dsimp only; rw [h]
theorem i_lst {xs : List D} {k : Int} {d : D} (h : atD xs k = some d) : idxM (.lst xs) (.int k) = pure d := by unfold idxM; dsimp only; rw [h]
theorem i_tup {xs : List D} {k : Int} {d : D} (h : atD xs k = some d) : idxM (.tup xs) (.int k) = pure d := by unfold idxM; dsimp only; rw [h]
theorem i_str {s : List Nat} {k : Int} {c : Nat} (hl : s.length ≤ sz) (h : atD s k = some c) : idxM (.str s) (.int k) = pure (.str [c]) := by unfold idxM; dsimp only; rw [if_pos hl, h]
@[simp] theorem lstM_nil : lstM [] = pure (.lst []) := rfl
@[simp] theorem tupM0 : tupM [] = pure (.tup []) := rfl
@[simp] theorem tupM1 (a : D) : tupM [a] = pure (.tup [a]) := rfl
@[simp] theorem lstM1 (a : D) : lstM [a] = pure (.lst [a]) := rfl
@[simp] theorem tupM2 (a b : D) : tupM [a, b] = pure (.tup [a, b]) := rfl
@[simp] theorem lstM2 (a b : D) : lstM [a, b] = pure (.lst [a, b]) := rfl
@[simp] theorem tupM3 (a b c : D) : tupM [a, b, c] = pure (.tup [a, b, c]) := rfl
@[simp] theorem lstM3 (a b c : D) : lstM [a, b, c] = pure (.lst [a, b, c]) := rfl
@[simp] theorem tupM4 (a b c d : D) : tupM [a, b, c, d] = pure (.tup [a, b, c, d]) := rfl
@[simp] theorem lstM4 (a b c d : D) : lstM [a, b, c, d] = pure (.lst [a, b, c, d]) := rfl
@[simp] theorem tupM5 (a b c d e : D) : tupM [a, b, c, d, e] = pure (.tup [a, b, c, d, e]) := rfl
@[simp] theorem lstM5 (a b c d e : D) : lstM [a, b, c, d, e] = pure (.lst [a, b, c, d, e]) := rfl
@[simp] theorem tupM6 (a b c d e f : D) : tupM [a, b, c, d, e, f] = pure (.tup [a, b, c, d, e, f]) := rfl
@[simp] theorem lstM6 (a b c d e f : D) : lstM [a, b, c, d, e, f] = pure (.lst [a, b, c, d, e, f]) := rfl
@[simp] theorem tupM7 (a b c d e f g : D) : tupM [a, b, c, d, e, f, g] = pure (.tup [a, b, c, d, e, f, g]) := rfl
@[simp] theorem lstM7 (a b c d e f g : D) : lstM [a, b, c, d, e, f, g] = pure (.lst [a, b, c, d, e, f, g]) := rfl
@[simp] theorem tupM8 (a b c d e f g h : D) : tupM [a, b, c, d, e, f, g, h] = pure (.tup [a, b, c, d, e, f, g, h]) := rfl
@[simp] theorem lstM8 (a b c d e f g h : D) : lstM [a, b, c, d, e, f, g, h] = pure (.lst [a, b, c, d, e, f, g, h]) := rfl
@[simp] theorem tupM9 (a b c d e f g h i : D) : tupM [a, b, c, d, e, f, g, h, i] = pure (.tup [a, b, c, d, e, f, g, h, i]) := rfl
@[simp] theorem lstM9 (a b c d e f g h i : D) : lstM [a, b, c, d, e, f, g, h, i] = pure (.lst [a, b, c, d, e, f, g, h, i]) := rfl
@[simp] theorem tupM10 (a b c d e f g h i j : D) : tupM [a, b, c, d, e, f, g, h, i, j] = pure (.tup [a, b, c, d, e, f, g, h, i, j]) := rfl
@[simp] theorem lstM10 (a b c d e f g h i j : D) : lstM [a, b, c, d, e, f, g, h, i, j] = pure (.lst [a, b, c, d, e, f, g, h, i, j]) := rfl
theorem lstM_ok {xs : List D} (h : xs.length ≤ 1000) : lstM xs = pure (.lst xs) := if_pos h
theorem tupM_ok {xs : List D} (h : xs.length ≤ 1000) : tupM xs = pure (.tup xs) := if_pos h
end
def cell (ns : List Int) (k : Int) : Int := if k < ns.length then ns.getD k.toNat 0 else if ns = [] then 0 else ns.getD (k % ns.length).toNat 0 * 31 + k
def sc (ns : List Int) : D := .scr (ns.map D.int)
theorem at_ints {ns : List Int} {k : Int} (h0 : 0 ≤ k) (h1 : k < ns.length) : atD (ns.map D.int) k = some (.int (ns.getD k.toNat 0)) := by
  have l : k.toNat < ns.length := by omega
  unfold atD ixD
  rw [List.length_map, if_pos h0, if_pos h1]
  simp [List.getElem?_eq_getElem l]
theorem eq_nil (xs : List D) : eqD dp (.scr xs) (.lst []) = some xs.isEmpty := by cases xs <;> rfl
theorem ok_cell (ns : List Int) (k : Int) (h : 0 ≤ k) : d__law_cell [sc ns, .int k] = pure (.int (cell ns k)) := by
  unfold d__law_cell c__law_cell
  rw [den2]
  unfold sc cell
  by_cases c : k < ns.length
  · simp [c, i_scr (at_ints h c)]
  · by_cases hn : ns = []
    · subst hn
      have c' : ¬ k < 0 := by omega
      simp [c', o_eq (eq_nil [])]
    · have l : (0 : Int) < ns.length := by
        have := List.length_pos_iff.mpr hn
        omega
      have e := at_ints (ns := ns) (k := k % ns.length) (Int.emod_nonneg _ (by omega)) (Int.emod_lt_of_pos _ l)
      have q : (ns.map D.int).isEmpty = false := by cases ns <;> simp_all
      have q2 := eq_nil (ns.map D.int)
      rw [q] at q2
      simp [c, hn, o_eq q2, o_mod _ _ l, i_scr e, o_mulI _ 31 (by simp [inR])]
def drawn (ns : List Int) (k : Int) : Int := (cell ns k + 6151 * (k + 1)) * 40692 % 2147483399
def pick (ns : List Int) (k many : Int) : Int := (drawn ns k * drawn ns k + drawn ns k / 31) % 2147483629 % many
theorem drawn_lt (ns : List Int) (k : Int) : 0 ≤ drawn ns k ∧ drawn ns k < 2147483399 := ⟨Int.emod_nonneg _ (by decide), Int.emod_lt_of_pos _ (by decide)⟩
theorem pick_lt (ns : List Int) (k many : Int) (h : 0 < many) : 0 ≤ pick ns k many ∧ pick ns k many < many := ⟨Int.emod_nonneg _ (by omega), Int.emod_lt_of_pos _ h⟩
theorem ok_pick (ns : List Int) (k many : Int) (h : 0 ≤ k) (hm : 0 < many) : d__law_pick [sc ns, .int k, .int many] = pure (.int (pick ns k many)) := by
  unfold d__law_pick c__law_pick
  rw [den3]
  obtain ⟨l1, l2⟩ := drawn_lt ns k
  have r : inR (drawn ns k) = true := by unfold inR; simp; omega
  have e : (cell ns k + 6151 * (k + 1)) * 40692 % 2147483399 = drawn ns k := rfl
  simp [ok_cell ns k h, o_mulI 6151 _ (by simp [inR]), o_mulI _ 40692 (by simp [inR]), o_mod _ 2147483399 (by decide), e, o_mulI (drawn ns k) (drawn ns k) (by rw [r]; rfl), o_fdiv _ 31 (by decide), o_mod _ 2147483629 (by decide), o_mod _ many hm]
  rfl
end WB.C
namespace WB.C
open WB
structure Row where
  a : Option Nat
  l : Nat
  b : Option Nat
  t : List Nat
  deriving DecidableEq
def nbD : Option Nat → D
  | none => .non
  | some c => .str [c]
def rowD (r : Row) : D := .tup [nbD r.a, .str [r.l], nbD r.b, .str r.t]
def tabD (t : List Row) : D := .tup (t.map rowD)
def isSm (c : Nat) : Bool := (decide (97 ≤ c) && decide (c ≤ 122)) || decide (c = 39)
def isGr (c : Nat) : Bool := decide (65 ≤ c) && decide (c ≤ 72)
def txOk (t : List Nat) : Prop := 1 ≤ t.length ∧ t.length ≤ 3 ∧ ∀ c ∈ t, isSm c = true
theorem strs_map (l : List (List Nat)) : strsOf (l.map D.str) = some l := by
  induction l with
  | nil => rfl
  | cons a r ih => simp [strsOf, ih]
theorem join_nil (l : List (List Nat)) : joinT [] l = l.flatten := by
  induction l with
  | nil => rfl
  | cons a r ih =>
    cases r with
    | nil => simp [joinT]
    | cons b r => simp [joinT, ih]
theorem m_join0 (l : List (List Nat)) (h : (l.map List.length).sum ≤ sz) : mthM .join (.str []) [.lst (l.map D.str)] = pure (.str l.flatten) := by
  show joinM (.str []) (.lst (l.map D.str)) = _
  unfold joinM
  dsimp only
  rw [strs_map]
  simp [h, join_nil]
theorem bind_name (i : Nat) (x : D) (m : Slots) : bindD (.name i) x m = pure (m.set i (some x)) := rfl
theorem ev_map {Φ : Fns} {i : Nat} {it elt : E} {own : List Nat} {m : Slots} {α : Type} {xs : List α} {u v : α → D} (hi : evI Φ it m = pure (xs.map u)) (hl : xs.length < sz)
    (h : ∀ x ∈ xs, evE Φ elt ((wipeD m own).set i (some (u x))) = pure (v x)) : evE Φ (.comp (.name i) it none elt own) m = pure (.lst (xs.map v)) := by
  show (evI Φ it m >>= _) = _
  rw [hi, pure_bnd]
  have key : ∀ ys : List α, (∀ x ∈ ys, x ∈ xs) → mapM' (fun x => bindD (.name i) x (wipeD m own) >>= fun m' => evC Φ none m' >>= fun b => if b then evE Φ elt m' >>= fun y => pure (some y) else pure none) (ys.map u) = pure (ys.map v) := by
    intro ys
    induction ys with
    | nil => intro _; rfl
    | cons y ys ih =>
      intro hy
      have e1 := h y (hy y (List.mem_cons_self ..))
      have e2 := ih fun x hx => hy x (List.mem_cons_of_mem _ hx)
      show ((bindD (.name i) (u y) (wipeD m own) >>= _) >>= _) = _
      rw [bind_name, pure_bnd]
      show ((evE Φ elt ((wipeD m own).set i (some (u y))) >>= fun y => pure (some y)) >>= _) = _
      rw [e1, pure_bnd, pure_bnd, e2]
      rfl
  rw [key xs fun x hx => hx, shut_pure, pure_bnd, if_pos (by simpa using hl)]
def conv (small : List Nat) (c : Nat) : Nat := if c = 39 then 39 else small.getD (c - 97) 0
def base10 : List (List Nat) := [[97], [98], [99], [97, 98], [98, 97], [97, 39], [97, 98, 99], [98, 98], [100], [99, 97]]
theorem m_index (c : Nat) (h : c ∈ [97, 98, 99, 100]) : mthM .index (.str [97, 98, 99, 100]) [.str [c]] = pure (.int ((c - 97 : Nat) : Int)) := by
  simp at h
  rcases h with rfl | rfl | rfl | rfl <;> rfl
theorem at_nat {α : Type} (xs : List α) (k : Nat) (h : k < xs.length) : atD xs (k : Int) = some xs[k] := by
  unfold atD ixD
  rw [if_pos (Int.natCast_nonneg k), if_pos (by omega)]
  simp [List.getElem?_eq_getElem h]
theorem base_mem {t : List Nat} (h : t ∈ base10) : (∀ c ∈ t, c = 39 ∨ c ∈ [97, 98, 99, 100]) ∧ 1 ≤ t.length ∧ t.length ≤ 3 := by
  revert t
  decide
theorem conv_ok {small : List Nat} (hs : ∀ c ∈ small, isSm c = true) (hl : 4 ≤ small.length) {t : List Nat} (ht : t ∈ base10) : txOk (t.map (conv small)) := by
  obtain ⟨h1, h2, h3⟩ := base_mem ht
  refine ⟨by simpa using h2, by simpa using h3, fun c hc => ?_⟩
  obtain ⟨d, hd, rfl⟩ := List.mem_map.mp hc
  unfold conv
  rcases h1 d hd with rfl | h
  · rfl
  · have lt : d - 97 < small.length := by simp at h; omega
    have ne : d ≠ 39 := by simp at h; omega
    rw [if_neg ne, List.getD_eq_getElem?_getD, List.getElem?_eq_getElem lt]
    exact hs _ (List.getElem_mem lt)
theorem flat1 {α β : Type} (f : α → β) (t : List α) : (t.map fun c => [f c]).flatten = t.map f := by
  induction t with
  | nil => rfl
  | cons c t ih => simp [ih]
theorem len1 {α β : Type} (f : α → β) (t : List α) : ((t.map fun c => [f c]).map List.length).sum = t.length := by
  induction t with
  | nil => rfl
  | cons c t ih => simp only [List.map_cons, List.sum_cons, List.length_cons, ih]; simp; omega
theorem text_turn {Φ : Fns} {small t : List Nat} {m : Slots} (h4 : m[4]? = some (some (.str small))) (h6 : m[6]? = some (some (.str t))) (hl : 4 ≤ small.length ∧ small.length ≤ 26) (ht : t ∈ base10) (m15 : 15 < m.length) :
    evE Φ (.mth .join true (.cst (.str [])) [.comp (.name 15) (.ival (.slot 6)) none (.ite (.bin .ne (.slot 15) (.cst (.str [39]))) (.idx (.slot 4) (.mth .index true (.cst (.str [97, 98, 99, 100])) [.slot 15])) (.slot 15)) [15]]) m = pure (.str (t.map (conv small))) := by
  obtain ⟨h1, h2, h3⟩ := base_mem ht
  have e : evE Φ (.comp (.name 15) (.ival (.slot 6)) none (.ite (.bin .ne (.slot 15) (.cst (.str [39]))) (.idx (.slot 4) (.mth .index true (.cst (.str [97, 98, 99, 100])) [.slot 15])) (.slot 15)) [15]) m = pure (.lst (t.map fun c => D.str [conv small c])) := by
    refine ev_map (u := fun c => D.str [c]) (xs := t) ?_ (Nat.lt_of_le_of_lt h3 (by decide)) fun c hc => ?_
    · simp [h6]; rfl
    · have g15 : ((wipeD m [15]).set 15 (some (D.str [c])))[15]? = some (some (.str [c])) := List.getElem?_set_self (by simp [wipeD]; exact m15)
      have g4 : ((wipeD m [15]).set 15 (some (D.str [c])))[4]? = some (some (.str small)) := by
        rw [List.getElem?_set_ne (by decide)]
        simp only [wipeD]
        rw [List.getElem?_set_ne (by decide)]
        exact h4
      have q : eqD dp (.str [c]) (.str [39]) = some (decide (c = 39)) := by
        show some ([c] == [39]) = _
        congr 1
        by_cases z : c = 39 <;> simp [z]
      by_cases z : c = 39
      · subst z
        simp [g15, g4, o_ne q, conv]
      · have hm := (h1 c hc).resolve_left z
        have lt : c - 97 < small.length := by simp at hm; omega
        simp [g15, g4, o_ne q, z, m_index c hm, i_str (Nat.le_trans hl.2 (by decide)) (at_nat small (c - 97) lt), conv, List.getElem?_eq_getElem lt]
  rw [v_mth, v_acons, e]
  have e2 : (t.map fun c => D.str [conv small c]) = (t.map fun c => [conv small c]).map D.str := by simp
  simp only [v_cst, v_anil, L1_pure, L2_pure, ifTy_s, consM_pure]
  rw [e2, m_join0 _ (by rw [len1]; exact Nat.le_trans h3 (by decide)), flat1]
theorem for_inv {Φ : Fns} {F : Nat} {t : Tg} {body : List S} {xs : List D} {m : Slots} {I : Nat → Slots → Prop} (h0 : I 0 m) (hs : ∀ i x m, xs[i]? = some x → I i m → ∃ m', (bindD t x m >>= fun m' => exL Φ F body m') = pure (.next m') ∧ I (i + 1) m') : ∃ m', forX Φ F t body m xs = pure (.next m') ∧ I xs.length m' := by
  obtain ⟨m', e, i⟩ := forL_inv (turn := fun x m => bindD t x m >>= fun m' => exL Φ F body m') (I := I) xs 0 m h0 fun i x m hx im => by
    rw [Nat.zero_add] at im ⊢
    exact hs i x m hx im
  rw [Nat.zero_add] at i
  exact ⟨m', e, i⟩
def nbOk (S : List Nat) : Option Nat → Prop
  | none => True
  | some c => c = 35 ∨ c ∈ S
structure RowOk (S : List Nat) (r : Row) : Prop where
  a : nbOk S r.a
  l : r.l ∈ S
  b : nbOk S r.b
  t : txOk r.t
structure TabOk (S : List Nat) (most : Nat) (t : List Row) : Prop where
  s2 : 2 ≤ S.length
  s3 : S.length ≤ 3
  nd : S.Nodup
  gr : ∀ c ∈ S, isGr c = true
  rows : ∀ r ∈ t, RowOk S r
  bare : ∀ l ∈ S, ∃ r ∈ t, r.l = l ∧ r.a = none ∧ r.b = none
  lo : S.length ≤ t.length
  hi : t.length ≤ most
theorem cut_to {α : Type} (xs : List α) (k : Nat) (h : k ≤ xs.length) : cut xs none (some (k : Int)) = xs.take k := by
  have : min k xs.length = k := Nat.min_eq_left h
  have n0 : ¬ (k : Int) < 0 := by omega
  simp [cut, sIx, this, n0]
theorem cut_from {α : Type} (xs : List α) (k : Nat) (h : k ≤ xs.length) : cut xs (some (k : Int)) none = xs.drop k := by
  have : min k xs.length = k := Nat.min_eq_left h
  have n0 : ¬ (k : Int) < 0 := by omega
  simp [cut, sIx, this, n0]
  exact List.take_of_length_le (by rw [List.length_drop]; exact Nat.le_refl _)
def abc : List Nat := [97, 98, 99, 100, 101, 102, 103, 104, 105, 106, 107, 108, 109, 110, 111, 112, 113, 114, 115, 116, 117, 118, 119, 120, 121, 122]
theorem abc_sm : ∀ c ∈ abc, isSm c = true := by decide
def three : List (List Nat) := [[66, 67, 65], [68, 69, 70], [71, 72, 66]]
def someS (ns : List Int) (at_ : Int) : List Nat := (three.getD (pick ns (at_ + 7) 3).toNat []).take (if pick ns at_ 3 = 0 then 3 else 2)
theorem someS_ok (ns : List Int) (at_ : Int) : 2 ≤ (someS ns at_).length ∧ (someS ns at_).length ≤ 3 ∧ (someS ns at_).Nodup ∧ ∀ c ∈ someS ns at_, isGr c = true := by
  have h := pick_lt ns (at_ + 7) 3 (by decide)
  unfold someS
  have : (pick ns (at_ + 7) 3).toNat = 0 ∨ (pick ns (at_ + 7) 3).toNat = 1 ∨ (pick ns (at_ + 7) 3).toNat = 2 := by omega
  rcases this with e | e | e <;> rw [e] <;> split <;> decide
theorem c_str {s : List Nat} {lo hi : Option Int} (h : s.length ≤ sz) : cutM (.str s) lo hi = pure (.str (cut s lo hi)) := by unfold cutM; dsimp only; rw [if_pos h]
@[simp] theorem c_lst (xs : List D) (lo hi : Option Int) : cutM (.lst xs) lo hi = pure (.lst (cut xs lo hi)) := rfl
@[simp] theorem c_tup (xs : List D) (lo hi : Option Int) : cutM (.tup xs) lo hi = pure (.tup (cut xs lo hi)) := rfl
theorem eq_int (i j : Int) : eqD dp (.int i) (.int j) = some (i == j) := rfl
def tslots (ns : List Int) (at_ most : Int) (S small : List Nat) (x5 x6 x7 x8 x9 x10 x11 x12 x13 x14 : Option D) : Slots := [some (sc ns), some (.int at_), some (.int most), some (.str S), some (.str small), x5, x6, x7, x8, x9, x10, x11, x12, x13, x14, none]
theorem enum_at {ds : List D} : ∀ {k i : Nat} {d : D}, (enumD k ds)[i]? = some d → ∃ x, ds[i]? = some x ∧ d = .tup [.int ((k + i : Nat) : Int), x] := by
  induction ds with
  | nil => intro k i d e; cases e
  | cons y ds ih =>
    intro k i d e
    cases i with
    | zero =>
      have e' : some (D.tup [.int (k : Nat), y]) = some d := e
      cases e'
      exact ⟨y, rfl, rfl⟩
    | succ i =>
      have e' : (enumD (k + 1) ds)[i]? = some d := by simpa [enumD] using e
      obtain ⟨x, q1, q2⟩ := ih e'
      exact ⟨x, by simpa using q1, by rw [q2]; congr 3; congr 1; omega⟩
theorem enum_length (ds : List D) : ∀ k, (enumD k ds).length = ds.length := by
  induction ds with
  | nil => intro k; rfl
  | cons y ds ih => intro k; simp [enumD, ih]
theorem rng_at {a c : Int} : ∀ {n i : Nat} {d : D}, (rngD a c n)[i]? = some d → i < n ∧ d = .int (a + (i : Nat) * c) := by
  intro n
  induction n generalizing a with
  | zero => intro i d e; cases e
  | succ n ih =>
    intro i d e
    cases i with
    | zero =>
      have e' : some (D.int a) = some d := e
      cases e'
      exact ⟨by omega, by simp⟩
    | succ i =>
      have e' : (rngD (a + c) c n)[i]? = some d := by simpa [rngD] using e
      obtain ⟨l, q⟩ := ih e'
      refine ⟨by omega, ?_⟩
      rw [q]
      congr 1
      have : ((i + 1 : Nat) : Int) = (i : Int) + 1 := by omega
      rw [this, Int.add_mul]
      omega
theorem rng_length {a c : Int} (n : Nat) : (rngD a c n).length = n := by
  induction n generalizing a with
  | zero => rfl
  | succ n ih => simp [rngD, ih]
theorem at_last {α : Type} (xs : List α) (h : 0 < xs.length) : atD xs (-1) = some (xs[xs.length - 1]'(by omega)) := by
  unfold atD ixD
  rw [if_neg (by decide), if_pos (by omega)]
  have e : ((-1 : Int) + xs.length).toNat = xs.length - 1 := by omega
  simp [e]
theorem nb_pick {S : List Nat} (h : 0 < S.length) {p : Int} (h0 : 0 ≤ p) (h4 : p < 4) : ∃ a, idxM (.lst [.non, .str [35], .str [S[0]'h], .str [S[S.length - 1]'(by omega)]]) (.int p) = pure (nbD a) ∧ nbOk S a := by
  have : p = 0 ∨ p = 1 ∨ p = 2 ∨ p = 3 := by omega
  rcases this with rfl | rfl | rfl | rfl
  · exact ⟨none, rfl, trivial⟩
  · exact ⟨some 35, rfl, .inl rfl⟩
  · exact ⟨some (S[0]'h), rfl, .inr (List.getElem_mem _)⟩
  · exact ⟨some (S[S.length - 1]'(by omega)), rfl, .inr (List.getElem_mem _)⟩
theorem at_int {α : Type} (xs : List α) (p : Int) (h0 : 0 ≤ p) (h : p < xs.length) : atD xs p = some (xs[p.toNat]'(by omega)) := by
  have e : p = (p.toNat : Int) := by omega
  conv => lhs; rw [e]
  exact at_nat xs p.toNat (by omega)
theorem seq_for {Φ : Fns} {F : Nat} {r : List S} {x : M Fl} {P : Slots → Prop} (Q : M Fl → Prop) (h : ∃ m', x = pure (.next m') ∧ P m') (k : ∀ m', P m' → Q (exL Φ F r m')) : Q (seqM Φ F r x) := by
  obtain ⟨m', e, p⟩ := h
  rw [e, seq_next]
  exact k m' p
end WB.C
namespace WB.C
open WB
inductive PlD : D → Prop where
  | non : PlD .non
  | bl (b : Bool) : PlD (.bl b)
  | int (i : Int) : PlD (.int i)
  | str (s : List Nat) (h : s.length ≤ 1000000) : PlD (.str s)
  | tup (ds : List D) (hl : ds.length ≤ 1000000) (h : ∀ d ∈ ds, PlD d) : PlD (.tup ds)
  | lst (ds : List D) (hl : ds.length ≤ 1000000) (h : ∀ d ∈ ds, PlD d) : PlD (.lst ds)
theorem million : (1000000 : Nat) < sz := by decide
def txtB : D → Bool
  | .str s => s.all isSm
  | _ => false
def nbB : D → Bool
  | .non => true
  | .str [c] => isGr c || decide (c = 35)
  | _ => false
def letB : D → Bool
  | .str [c] => isGr c
  | _ => false
def sm3B : D → Bool
  | .str s => decide (1 ≤ s.length) && decide (s.length ≤ 3) && s.all isSm
  | _ => false
def rowB : D → Bool
  | .tup [a, l, b, t] => nbB a && nbB b && letB l && sm3B t
  | _ => false
def elts : D → List D
  | .tup ds => ds
  | _ => []
def bareB (d : D) : Bool := match d with
  | .tup [.non, _, .non, _] => true
  | _ => false
def letOf : D → D
  | .tup [_, l, _, _] => l
  | _ => .non
def sameS : D → D → Bool
  | .str a, .str b => a == b
  | _, _ => false
def tabB : D → Bool
  | .tup ds => decide (1 ≤ ds.length) && decide (ds.length ≤ 10) && ds.all rowB && ds.all fun r => (ds.filter bareB).any fun b => sameS (letOf b) (letOf r)
  | _ => false
theorem sm_iff (c : Nat) : ([97, 98, 99, 100, 101, 102, 103, 104, 105, 106, 107, 108, 109, 110, 111, 112, 113, 114, 115, 116, 117, 118, 119, 120, 121, 122, 39] : List Nat).contains c = isSm c := by
  rw [Bool.eq_iff_iff, List.contains_iff_mem]
  unfold isSm
  simp only [List.mem_cons, List.not_mem_nil, or_false, Bool.or_eq_true, Bool.and_eq_true, decide_eq_true_eq]
  omega
theorem gr_iff (c : Nat) : ([65, 66, 67, 68, 69, 70, 71, 72] : List Nat).contains c = isGr c := by
  rw [Bool.eq_iff_iff, List.contains_iff_mem]
  unfold isGr
  simp only [List.mem_cons, List.not_mem_nil, or_false, Bool.and_eq_true, decide_eq_true_eq]
  omega
theorem nb_iff (c : Nat) : ([65, 66, 67, 68, 69, 70, 71, 72, 35] : List Nat).contains c = (isGr c || decide (c = 35)) := by
  rw [Bool.eq_iff_iff, List.contains_iff_mem]
  unfold isGr
  simp only [List.mem_cons, List.not_mem_nil, or_false, Bool.or_eq_true, Bool.and_eq_true, decide_eq_true_eq]
  omega
theorem in_s (c : Nat) (s : List Nat) : opM .in_ (.str [c]) (.str s) = pure (.bl (s.contains c)) := o_in rfl
theorem notin_s (c : Nat) (s : List Nat) : opM .notin (.str [c]) (.str s) = pure (.bl (!s.contains c)) := o_notin rfl
@[simp] theorem is_str1 (s : List Nat) : isM .str (.str s) = pure (.bl true) := rfl
@[simp] theorem is_str2 : isM .str .non = pure (.bl false) := rfl
@[simp] theorem is_str3 (b : Bool) : isM .str (.bl b) = pure (.bl false) := rfl
@[simp] theorem is_str4 (i : Int) : isM .str (.int i) = pure (.bl false) := rfl
@[simp] theorem is_str5 (ds : List D) : isM .str (.tup ds) = pure (.bl false) := rfl
@[simp] theorem is_str6 (ds : List D) : isM .str (.lst ds) = pure (.bl false) := rfl
@[simp] theorem is_tup1 (s : List Nat) : isM .tuple (.str s) = pure (.bl false) := rfl
@[simp] theorem is_tup2 : isM .tuple .non = pure (.bl false) := rfl
@[simp] theorem is_tup3 (b : Bool) : isM .tuple (.bl b) = pure (.bl false) := rfl
@[simp] theorem is_tup4 (i : Int) : isM .tuple (.int i) = pure (.bl false) := rfl
@[simp] theorem is_tup5 (ds : List D) : isM .tuple (.tup ds) = pure (.bl true) := rfl
@[simp] theorem is_tup6 (ds : List D) : isM .tuple (.lst ds) = pure (.bl false) := rfl
theorem bls_map (l : List Bool) : blsOf (l.map D.bl) = some l := by
  induction l with
  | nil => rfl
  | cons a r ih => simp [blsOf, ih]
@[simp] theorem b_all (l : List Bool) : blt1M .all (.lst (l.map D.bl)) = pure (.bl (l.all id)) := by
  show allM (.lst (l.map D.bl)) = _
  unfold allM
  dsimp only
  rw [bls_map]
theorem b_allf {α : Type} (f : α → Bool) (s : List α) : blt1M .all (.lst (s.map fun c => D.bl (f c))) = pure (.bl (s.all f)) := by
  have e : (s.map fun c => D.bl (f c)) = (s.map f).map D.bl := by simp
  rw [e, b_all, List.all_map]
  rfl
theorem add_sm : opM .add (.str [97, 98, 99, 100, 101, 102, 103, 104, 105, 106, 107, 108, 109, 110, 111, 112, 113, 114, 115, 116, 117, 118, 119, 120, 121, 122]) (.str [39]) = pure (.str [97, 98, 99, 100, 101, 102, 103, 104, 105, 106, 107, 108, 109, 110, 111, 112, 113, 114, 115, 116, 117, 118, 119, 120, 121, 122, 39]) := o_addS _ _ (by decide)
theorem add_nb : opM .add (.str [65, 66, 67, 68, 69, 70, 71, 72]) (.str [35]) = pure (.str [65, 66, 67, 68, 69, 70, 71, 72, 35]) := o_addS _ _ (by decide)
theorem in_sm (c : Nat) : opM .in_ (.str [c]) (.str [97, 98, 99, 100, 101, 102, 103, 104, 105, 106, 107, 108, 109, 110, 111, 112, 113, 114, 115, 116, 117, 118, 119, 120, 121, 122, 39]) = pure (.bl (isSm c)) := by rw [in_s, sm_iff]
theorem in_nb (c : Nat) : opM .in_ (.str [c]) (.str [65, 66, 67, 68, 69, 70, 71, 72, 35]) = pure (.bl (isGr c || decide (c = 35))) := by rw [in_s, nb_iff]
theorem notin_gr (c : Nat) : opM .notin (.str [c]) (.str [65, 66, 67, 68, 69, 70, 71, 72]) = pure (.bl (!isGr c)) := by rw [notin_s, gr_iff]
@[simp] theorem o_isbN (b : Bool) : opM .is_ (.bl b) .non = pure (.bl false) := rfl
@[simp] theorem o_isiN (b : Int) : opM .is_ (.int b) .non = pure (.bl false) := rfl
@[simp] theorem o_istN (b : List D) : opM .is_ (.tup b) .non = pure (.bl false) := rfl
@[simp] theorem o_islN (b : List D) : opM .is_ (.lst b) .non = pure (.bl false) := rfl
@[simp] theorem o_notbN (b : Bool) : opM .isnot (.bl b) .non = pure (.bl true) := rfl
@[simp] theorem o_notiN (b : Int) : opM .isnot (.int b) .non = pure (.bl true) := rfl
@[simp] theorem o_nottN (b : List D) : opM .isnot (.tup b) .non = pure (.bl true) := rfl
@[simp] theorem o_notlN (b : List D) : opM .isnot (.lst b) .non = pure (.bl true) := rfl
theorem ok_is_text {d : D} (h : PlD d) : d_is_text [d] = pure (.bl (txtB d)) := by
  unfold d_is_text c_is_text
  rw [den1]
  cases h with
  | str s hs =>
    have e : evE (tab []) (.comp (.name 1) (.ival (.slot 0)) none (.bin .in_ (.slot 1) (.bin .add (.cst (.str [97, 98, 99, 100, 101, 102, 103, 104, 105, 106, 107, 108, 109, 110, 111, 112, 113, 114, 115, 116, 117, 118, 119, 120, 121, 122])) (.cst (.str [39])))) [1]) [some (.str s), none] = pure (.lst (s.map fun c => D.bl (isSm c))) := by
      refine ev_map (u := fun c => D.str [c]) (by simp; rfl) (Nat.lt_of_le_of_lt hs million) fun c hc => ?_
      simp [wipeD, add_sm, in_sm]
    simp only [List.replicate, x_cons, x_nil, x_ret, v_and, v_isi, v_slot, List.getElem?_cons_zero, getS_some, L1_pure, is_str1, andM_t, v_blt, v_acons, v_anil, e, L2_pure, consM_pure, b_blt1, b_allf, retM_pure, seq_ret, end_ret, txtB]
  | _ => simp [txtB]
theorem ok_is_nb {d : D} (h : PlD d) : d_is_neighbour [d] = pure (.bl (nbB d)) := by
  unfold d_is_neighbour c_is_neighbour
  rw [den1]
  cases h with
  | non => simp [nbB]
  | str s hs =>
    have l := b_lenX s (Nat.le_trans hs (Nat.le_of_lt million))
    rcases s with _ | ⟨c, _ | ⟨c2, r⟩⟩
    · simp [l, o_eq (eq_int _ _), nbB]
    · simp [l, o_eq (eq_int _ _), nbB, add_nb, in_nb]
    · have ne : (((r.length + 1 + 1 : Nat) : Int) == 1) = false := by
        rw [beq_eq_false_iff_ne]; omega
      simp only [List.length_cons] at l
      simp only [List.replicate, x_cons, x_nil, x_ret, v_and, v_or, v_isi, v_slot, v_bin, v_cst, List.getElem?_cons_zero, getS_some, L1_pure, L2_pure, o_isSN, orM_f, is_str1, andM_t, v_blt, v_acons, v_anil, consM_pure, b_blt1, l, o_eq (eq_int _ _), ne, andM_f, retM_pure, seq_ret, end_ret, nbB]
  | bl b => simp [nbB]
  | int b => simp [nbB]
  | tup ds _ _ => simp [nbB]
  | lst ds _ _ => simp [nbB]
theorem len1_iff (s : List Nat) : ((s.length : Int) == 1) = match s with | [_] => true | _ => false := by
  rcases s with _ | ⟨c, _ | ⟨c2, r⟩⟩
  · rfl
  · rfl
  · show (((r.length + 1 + 1 : Nat) : Int) == 1) = false
    rw [beq_eq_false_iff_ne]; omega
theorem let_test {d : D} (h : PlD d) : orM (notM (isM .str d)) (orM (L2 (opM .ne) (blt1M .len d) (pure (.int 1))) (opM .notin d (.str [65, 66, 67, 68, 69, 70, 71, 72]))) = pure (.bl (!letB d)) := by
  cases h with
  | str s hs =>
    have l := b_lenX s (Nat.le_trans hs (Nat.le_of_lt million))
    have q := len1_iff s
    rcases s with _ | ⟨c, _ | ⟨c2, r⟩⟩
    · simp only [is_str1, notM_b, Bool.not_true, orM_f, l, L2_pure, o_ne (eq_int _ _), q, Bool.not_false, orM_t, letB]
    · simp only [is_str1, notM_b, Bool.not_true, orM_f, l, L2_pure, o_ne (eq_int _ _), q, notin_gr, letB]
    · simp only [is_str1, notM_b, Bool.not_true, orM_f, l, L2_pure, o_ne (eq_int _ _), q, Bool.not_false, orM_t, letB]
  | _ => simp [letB]
theorem t4 (a b c d : D) : idxM (.tup [a, b, c, d]) (.int 0) = pure a ∧ idxM (.tup [a, b, c, d]) (.int 1) = pure b ∧ idxM (.tup [a, b, c, d]) (.int 2) = pure c ∧ idxM (.tup [a, b, c, d]) (.int 3) = pure d := ⟨rfl, rfl, rfl, rfl⟩
theorem four_of {ds : List D} (h : ((ds.length : Int) == 4) = true) : ∃ a b c d, ds = [a, b, c, d] := by
  have h' : ds.length = 4 := by have := eq_of_beq h; omega
  match ds, h' with
  | [a, b, c, d], _ => exact ⟨a, b, c, d, rfl⟩
theorem rowB_not4 {ds : List D} (h : ((ds.length : Int) == 4) = false) : rowB (.tup ds) = false := by
  unfold rowB
  split
  · rename_i q
    cases q
    cases h
  · rfl
theorem chain_le {Φ : Fns} {m : Slots} (lo n hi : Int) : chnM Φ .le .le (.cst (.int hi)) m (.int lo) (.int n) = pure (.bl (decide (lo ≤ n) && decide (n ≤ hi))) := by
  unfold chnM
  rw [o_leI, pure_bnd, asB_bl, pure_bnd]
  by_cases c : lo ≤ n
  · rw [decide_eq_true c, if_pos rfl, v_cst, pure_bnd, o_leI, Bool.true_and]
  · rw [decide_eq_false c]
    rfl
theorem ok_is_row {d : D} (h : PlD d) : d_is_row [d] = pure (.bl (rowB d)) := by
  unfold d_is_row c_is_row
  rw [den1]
  cases h with
  | tup ds hl hd =>
    cases q : ((ds.length : Int) == 4) with
    | false =>
      rw [rowB_not4 q]
      simp only [List.replicate, x_cons, x_nil, x_if, x_ret, v_or, v_not, v_isi, v_slot, v_bin, v_blt, v_acons, v_anil, v_cst, List.getElem?_cons_zero, getS_some, L1_pure, L2_pure, is_tup5, notM_b, Bool.not_true, orM_f, consM_pure, b_blt1, b_lenT, o_ne (eq_int _ _), q, Bool.not_false, orM_t, iteM_t, retM_pure, seq_ret, end_ret]
    | true =>
      obtain ⟨a, l, b, t, rfl⟩ := four_of q
      obtain ⟨i0, i1, i2, i3⟩ := t4 a l b t
      have pa := hd a (by simp)
      have pl := hd l (by simp)
      have pb := hd b (by simp)
      have pt := hd t (by simp)
      have lt := let_test pl
      have tx : rowB (.tup [a, l, b, t]) = (nbB a && nbB b && letB l && sm3B t) := rfl
      simp only [List.replicate, x_cons, x_nil, x_if, x_ret, v_or, v_not, v_and, v_isi, v_slot, v_bin, v_blt, v_acons, v_anil, v_cst, v_idx, v_call, List.getElem?_cons_zero, getS_some, L1_pure, L2_pure, is_tup5, notM_b, Bool.not_true, orM_f, consM_pure, b_blt1, b_lenT, o_ne (eq_int _ _), q, i0, i1, i2, i3, tab0, tab1, ok_is_nb pa, ok_is_nb pb, lt, orM_b]
      rw [tx]
      cases na : nbB a with
      | false => simp
      | true =>
        cases nb : nbB b with
        | false => simp
        | true =>
          cases nl : letB l with
          | false =>
            rw [nl] at lt
            simp [i1, lt]
          | true =>
            rw [nl] at lt
            simp only [Bool.not_true, Bool.or_self, iteM_f, seq_next, x_cons, x_nil, x_if, x_ret, Bool.true_and, v_or, v_not, v_and, v_isi, v_slot, v_bin, v_blt, v_acons, v_anil, v_cst, v_idx, v_call, v_chain, List.getElem?_cons_zero, getS_some, L1_pure, L2_pure, i1, i3, consM_pure, b_blt1, lt, tab1, ok_is_text pt]
            cases nt : txtB t with
            | false =>
              have : sm3B t = false := by
                cases t with
                | str s => simp only [txtB] at nt; simp [sm3B, nt]
                | _ => rfl
              rw [this]
              rfl
            | true =>
              cases t with
              | str s =>
                cases pt with
                | str _ hs =>
                  rw [b_lenX s (Nat.le_trans hs (Nat.le_of_lt million)), andM_t, L2_pure, chain_le]
                  simp only [txtB] at nt
                  simp only [L1_pure, retM_pure, seq_ret, end_ret, sm3B, nt, Bool.and_true]
                  congr 3
                  · congr 1; exact propext (by omega)
                  · congr 1; exact propext (by omega)
              | _ => cases nt
  | _ => simp [rowB]
theorem rowB_typed {d : D} (h : rowB d = true) : ∃ r : Row, d = rowD r := by
  unfold rowB at h
  split at h
  · rename_i a l b t
    simp only [Bool.and_eq_true] at h
    obtain ⟨⟨⟨ha, hb⟩, hl⟩, ht⟩ := h
    have na : ∀ x, nbB x = true → ∃ o, x = nbD o := fun x hx => by
      unfold nbB at hx
      split at hx
      · exact ⟨none, rfl⟩
      · rename_i c; exact ⟨some c, rfl⟩
      · cases hx
    obtain ⟨oa, rfl⟩ := na a ha
    obtain ⟨ob, rfl⟩ := na b hb
    have ll : ∃ c, l = .str [c] := by
      unfold letB at hl
      split at hl
      · rename_i c; exact ⟨c, rfl⟩
      · cases hl
    obtain ⟨c, rfl⟩ := ll
    have tt : ∃ s, t = .str s := by
      unfold sm3B at ht
      split at ht
      · rename_i s; exact ⟨s, rfl⟩
      · cases ht
    obtain ⟨s, rfl⟩ := tt
    exact ⟨⟨oa, c, ob, s⟩, rfl⟩
  · cases h
theorem rows_typed : ∀ {ds : List D}, ds.all rowB = true → ∃ rs : List Row, ds = rs.map rowD
  | [], _ => ⟨[], rfl⟩
  | d :: ds, h => by
    rw [List.all_cons, Bool.and_eq_true] at h
    obtain ⟨r, rfl⟩ := rowB_typed h.1
    obtain ⟨rs, rfl⟩ := rows_typed h.2
    exact ⟨r :: rs, rfl⟩
def bareR (r : Row) : Bool := r.a.isNone && r.b.isNone
theorem bareB_row (r : Row) : bareB (rowD r) = bareR r := by
  obtain ⟨a, l, b, t⟩ := r
  cases a <;> cases b <;> rfl
def allBare (rs : List Row) : Bool := rs.all fun r => (rs.filter bareR).any fun b => b.l == r.l
theorem filter_map_row (rs : List Row) : (rs.map rowD).filter bareB = (rs.filter bareR).map rowD := by
  rw [List.filter_map]
  congr 1
  apply List.filter_congr
  intro r _
  exact bareB_row r
theorem tabB_typed (rs : List Row) : tabB (tabD rs) = (decide (1 ≤ rs.length) && decide (rs.length ≤ 10) && (rs.map rowD).all rowB && allBare rs) := by
  unfold tabB tabD allBare
  dsimp only
  rw [List.length_map, filter_map_row]
  congr 1
  rw [List.all_map]
  congr 1
  funext r
  show ((rs.filter bareR).map rowD).any _ = _
  rw [List.any_map]
  congr 1
  funext b
  show sameS (.str [b.l]) (.str [r.l]) = _
  show ([b.l] == [r.l]) = _
  by_cases z : b.l = r.l <;> simp [z]
theorem ev_filter {Φ : Fns} {i : Nat} {it elt cnd : E} {own : List Nat} {m : Slots} {α : Type} {xs : List α} {u v : α → D} {p : α → Bool} (hi : evI Φ it m = pure (xs.map u)) (hl : xs.length < sz)
    (hc : ∀ x ∈ xs, evE Φ cnd ((wipeD m own).set i (some (u x))) = pure (.bl (p x))) (h : ∀ x ∈ xs, p x = true → evE Φ elt ((wipeD m own).set i (some (u x))) = pure (v x)) : evE Φ (.comp (.name i) it (some cnd) elt own) m = pure (.lst ((xs.filter p).map v)) := by
  show (evI Φ it m >>= _) = _
  rw [hi, pure_bnd]
  have key : ∀ ys : List α, (∀ x ∈ ys, x ∈ xs) → mapM' (fun x => bindD (.name i) x (wipeD m own) >>= fun m' => evC Φ (some cnd) m' >>= fun b => if b then evE Φ elt m' >>= fun y => pure (some y) else pure none) (ys.map u) = pure ((ys.filter p).map v) := by
    intro ys
    induction ys with
    | nil => intro _; rfl
    | cons y ys ih =>
      intro hy
      have e1 := hc y (hy y (List.mem_cons_self ..))
      have e2 := ih fun x hx => hy x (List.mem_cons_of_mem _ hx)
      show ((bindD (.name i) (u y) (wipeD m own) >>= _) >>= _) = _
      rw [bind_name, pure_bnd]
      show (((evE Φ cnd ((wipeD m own).set i (some (u y))) >>= D.asB) >>= _) >>= _) = _
      rw [e1, pure_bnd, asB_bl, pure_bnd]
      cases q : p y with
      | false =>
        rw [if_neg (by decide), pure_bnd, e2, pure_bnd, List.filter_cons_of_neg (by rw [q]; decide)]
      | true =>
        rw [if_pos rfl, h y (hy y (List.mem_cons_self ..)) q, pure_bnd, pure_bnd, e2, pure_bnd, List.filter_cons_of_pos q]
        rfl
  rw [key xs fun x hx => hx, shut_pure, pure_bnd, if_pos (by simpa using hl)]
theorem inL_strs (a : List Nat) : ∀ l : List (List Nat), inL (.str a) (l.map D.str) = some (l.any fun b => b == a)
  | [] => rfl
  | b :: l => by
    show (match eqD dp (.str b) (.str a), inL (.str a) (l.map D.str) with | some a, some b => some (a || b) | _, _ => none) = _
    rw [inL_strs a l]
    rfl
theorem in_strs (a : List Nat) (l : List (List Nat)) : opM .in_ (.str a) (.lst (l.map D.str)) = pure (.bl (l.any fun b => b == a)) := o_in (by
  show (match inL (.str a) (l.map D.str) with | some b => pure b | none => M.fail) = _
  rw [inL_strs])
theorem row_ix (r : Row) : idxM (rowD r) (.int 0) = pure (nbD r.a) ∧ idxM (rowD r) (.int 1) = pure (.str [r.l]) ∧ idxM (rowD r) (.int 2) = pure (nbD r.b) ∧ idxM (rowD r) (.int 3) = pure (.str r.t) := ⟨rfl, rfl, rfl, rfl⟩
@[simp] theorem nb_is (o : Option Nat) : opM .is_ (nbD o) .non = pure (.bl o.isNone) := by cases o <;> rfl
theorem ok_is_table {d : D} (h : PlD d) : d_is_table [d] = pure (.bl (tabB d)) := by
  unfold d_is_table c_is_table
  rw [den1]
  cases h with
  | tup ds hl hd =>
    have e1 : evE (tab [d_is_row]) (.comp (.name 2) (.ival (.slot 0)) none (.call 0 [.slot 2]) [2]) [some (.tup ds), none, none] = pure (.lst (ds.map fun d => D.bl (rowB d))) := by
      refine ev_map (u := fun d => d) (by simp) (Nat.lt_of_le_of_lt hl million) fun c hc => ?_
      simp [wipeD, ok_is_row (hd c hc)]
    simp only [List.replicate, x_cons, x_nil, x_if, x_ret, v_or, v_not, v_isi, v_slot, v_blt, v_acons, v_anil, v_cst, v_chain, List.getElem?_cons_zero, getS_some, L1_pure, L2_pure, is_tup5, notM_b, Bool.not_true, orM_f, consM_pure, b_blt1, b_lenT, chain_le, e1, b_allf, orM_b]
    by_cases c1 : 1 ≤ ds.length ∧ ds.length ≤ 10
    · have c2 : (decide ((1 : Int) ≤ (ds.length : Int)) && decide ((ds.length : Int) ≤ 10)) = true := by
        rw [Bool.and_eq_true, decide_eq_true_eq, decide_eq_true_eq]; omega
      rw [c2]
      cases q : ds.all rowB with
      | false =>
        have : tabB (.tup ds) = false := by simp [tabB, q]
        rw [this]
        rfl
      | true =>
        obtain ⟨rs, rfl⟩ := rows_typed q
        have lr : rs.length < sz := by
          rw [List.length_map] at c1
          exact Nat.lt_of_le_of_lt c1.2 (by decide)
        have e2 : evE (tab [d_is_row]) (.comp (.name 2) (.ival (.slot 0)) (some (.and (.bin .is_ (.idx (.slot 2) (.cst (.int 0))) (.cst .non)) (.bin .is_ (.idx (.slot 2) (.cst (.int 2))) (.cst .non)))) (.idx (.slot 2) (.cst (.int 1))) [2]) [some (.tup (rs.map rowD)), none, none] = pure (.lst ((rs.filter bareR).map fun r => D.str [r.l])) := by
          refine ev_filter (u := rowD) (p := bareR) (by simp) lr (fun r _ => ?_) fun r _ _ => ?_
          · obtain ⟨i0, i1, i2, i3⟩ := row_ix r
            simp [wipeD, i0, i2, andM_b, bareR]
          · obtain ⟨i0, i1, i2, i3⟩ := row_ix r
            simp [wipeD, i1]
        have e3 : evE (tab [d_is_row]) (.comp (.name 2) (.ival (.slot 0)) none (.bin .in_ (.idx (.slot 2) (.cst (.int 1))) (.slot 1)) [2]) [some (.tup (rs.map rowD)), some (.lst ((rs.filter bareR).map fun r => D.str [r.l])), none] = pure (.lst (rs.map fun r => D.bl ((rs.filter bareR).any fun b => b.l == r.l))) := by
          refine ev_map (u := rowD) (by simp) lr fun r _ => ?_
          obtain ⟨i0, i1, i2, i3⟩ := row_ix r
          have e : ((rs.filter bareR).map fun r => D.str [r.l]) = ((rs.filter bareR).map fun r => [r.l]).map D.str := by simp
          have e4 : ((rs.filter bareR).map fun r => [r.l]).any (fun b => b == [r.l]) = (rs.filter bareR).any fun b => b.l == r.l := by
            rw [List.any_map]
            congr 1
            funext b
            by_cases z : b.l = r.l <;> simp [z]
          rw [v_bin, v_idx]
          have g2 : ((wipeD [some (D.tup (rs.map rowD)), some (.lst ((rs.filter bareR).map fun r => D.str [r.l])), none] [2]).set 2 (some (rowD r))) = [some (D.tup (rs.map rowD)), some (.lst ((rs.filter bareR).map fun r => D.str [r.l])), some (rowD r)] := rfl
          rw [g2]
          simp only [v_slot, v_cst, List.getElem?_cons_zero, List.getElem?_cons_succ, getS_some, L2_pure, i1]
          rw [e, in_strs, e4]
        simp only [Bool.not_true, Bool.or_self, iteM_f, seq_next, x_cons, x_nil, x_set, x_ret, e2, L1_pure, setM_pure, List.set_cons_succ, List.set_cons_zero, v_blt, v_acons, v_anil, e3, L2_pure, consM_pure, b_blt1, b_allf, retM_pure, seq_ret, end_ret]
        have := tabB_typed rs
        unfold tabD at this
        rw [this, q]
        rw [List.length_map] at c1
        rw [decide_eq_true c1.1, decide_eq_true c1.2]
        rfl
    · have c2 : (decide ((1 : Int) ≤ (ds.length : Int)) && decide ((ds.length : Int) ≤ 10)) = false := by
        rw [Bool.eq_false_iff]
        intro z
        rw [Bool.and_eq_true, decide_eq_true_eq, decide_eq_true_eq] at z
        omega
      have : tabB (.tup ds) = false := by
        have c3 : (decide (1 ≤ ds.length) && decide (ds.length ≤ 10)) = false := by
          rw [Bool.eq_false_iff]
          intro z
          rw [Bool.and_eq_true, decide_eq_true_eq, decide_eq_true_eq] at z
          omega
        simp only [tabB, c3, Bool.false_and]
      rw [this, c2]
      rfl
  | _ => simp [tabB]
end WB.C
namespace WB.C
open WB
theorem lt1 (a b : Nat) : ltT [a] [b] = decide (a < b) := by
  show (if a = b then false else decide (a < b)) = _
  by_cases z : a = b
  · subst z; simp
  · rw [if_neg z]
@[simp] theorem o_leS (a b : List Nat) : opM .le (.str a) (.str b) = pure (.bl (!ltT b a)) := rfl
theorem eq_str (a b : List Nat) : eqD dp (.str a) (.str b) = some (a == b) := rfl
end WB.C
namespace WB.C
open WB
def pre : Option Nat → List Nat
  | none => []
  | some c => [c, 41]
def post : Option Nat → List Nat
  | none => []
  | some c => [40, c]
end WB.C
namespace WB.C
open WB
end WB.C
namespace WB.C
open WB
structure Rw (r : Row) : Prop where
  a : nbB (nbD r.a) = true
  b : nbB (nbD r.b) = true
  l : isGr r.l = true
  t1 : 1 ≤ r.t.length
  t3 : r.t.length ≤ 3
  t : ∀ c ∈ r.t, isSm c = true
theorem rw_of {r : Row} (h : rowB (rowD r) = true) : Rw r := by
  obtain ⟨a, l, b, t⟩ := r
  have h' : (nbB (nbD a) && nbB (nbD b) && letB (.str [l]) && sm3B (.str t)) = true := h
  simp only [Bool.and_eq_true] at h'
  obtain ⟨⟨⟨h1, h2⟩, h3⟩, h4⟩ := h'
  simp only [sm3B, Bool.and_eq_true, decide_eq_true_eq, List.all_eq_true] at h4
  exact ⟨h1, h2, h3, h4.1.1, h4.1.2, h4.2⟩
theorem row_of {r : Row} (h : Rw r) : rowB (rowD r) = true := by
  obtain ⟨a, l, b, t⟩ := r
  show (nbB (nbD a) && nbB (nbD b) && letB (.str [l]) && sm3B (.str t)) = true
  have h4 : sm3B (.str t) = true := by
    simp only [sm3B, Bool.and_eq_true, decide_eq_true_eq, List.all_eq_true]
    exact ⟨⟨h.t1, h.t3⟩, h.t⟩
  have h3 : letB (.str [l]) = true := h.l
  rw [h.a, h.b, h3, h4]
  rfl
def lines (s : List Nat) : List (List Nat) := splT [10] 0 [] s
end WB.C
namespace WB.C
open WB
end WB.C
namespace WB.C
open WB
inductive Path : D → List Int → Prop where
  | nil (d : D) : Path d []
  | cons (ds : List D) (k : Nat) (h : k < ds.length) (p : List Int) (t : Path ds[k] p) : Path (.tup ds) ((k : Int) :: p)
inductive Sml : D → Prop where
  | non : Sml .non
  | bl (b : Bool) : Sml (.bl b)
  | int (i : Int) : Sml (.int i)
  | str (s : List Nat) (h : s.length ≤ 1000) : Sml (.str s)
  | tup (ds : List D) (hl : ds.length ≤ 1000) (h : ∀ d ∈ ds, Sml d) : Sml (.tup ds)
theorem Sml.pl {d : D} (h : Sml d) : PlD d := by
  induction h with
  | non => exact .non
  | bl b => exact .bl b
  | int i => exact .int i
  | str s h => exact .str s (by omega)
  | tup ds hl h ih => exact .tup ds (by omega) ih
end WB.C
namespace WB.C
open WB
theorem t_set (Φ : Fns) (i : Nat) (e : E) (m : Slots) : exT Φ (.set i e) m = L1 (setM m i) (evE Φ e m) := rfl
theorem look_ok {d : D} (h : PlD d) (t : tabB d = true) : d_look_table [d] = pure .non := by
  unfold d_look_table c_look_table
  rw [den1]
  simp [ok_is_table h, t]
theorem pl_tab {rs : List Row} (h : tabB (tabD rs) = true) : PlD (tabD rs) := by
  rw [tabB_typed] at h
  simp only [Bool.and_eq_true, decide_eq_true_eq] at h
  refine .tup _ (by simp; omega) fun d hd => ?_
  obtain ⟨r, hr, rfl⟩ := List.mem_map.mp hd
  have rw' := rw_of (List.all_eq_true.mp h.1.2 (rowD r) hd)
  have nb : ∀ o : Option Nat, PlD (nbD o) := fun o => by
    cases o with
    | none => exact .non
    | some c => exact .str _ (by simp)
  refine .tup _ (by simp) fun x hx => ?_
  simp at hx
  rcases hx with rfl | rfl | rfl | rfl
  · exact nb _
  · exact .str _ (by simp)
  · exact nb _
  · exact .str _ (by have := rw'.t3; omega)
theorem drawn_tab {S : List Nat} {most : Nat} {t : List Row} (h : TabOk S most t) (h10 : most ≤ 10) : tabB (tabD t) = true := by
  rw [tabB_typed]
  simp only [Bool.and_eq_true, decide_eq_true_eq]
  refine ⟨⟨⟨by have := h.lo; have := h.s2; omega, by have := h.hi; omega⟩, ?_⟩, ?_⟩
  · rw [List.all_eq_true]
    intro d hd
    obtain ⟨r, hr, rfl⟩ := List.mem_map.mp hd
    have ro := h.rows r hr
    have nb : ∀ o, nbOk S o → nbB (nbD o) = true := fun o ho => by
      cases o with
      | none => rfl
      | some c =>
        show (isGr c || decide (c = 35)) = true
        rcases ho with rfl | ho
        · rfl
        · rw [h.gr c ho]; rfl
    exact row_of ⟨nb _ ro.a, nb _ ro.b, h.gr _ ro.l, ro.t.1, ro.t.2.1, ro.t.2.2⟩
  · unfold allBare
    rw [List.all_eq_true]
    intro r hr
    obtain ⟨b, hb, e1, e2, e3⟩ := h.bare r.l (h.rows r hr).l
    rw [List.any_eq_true]
    exact ⟨b, List.mem_filter.mpr ⟨hb, by simp [bareR, e2, e3]⟩, by simp [e1]⟩
theorem eqL_refl (n : Nat) : ∀ ds : List D, (∀ d ∈ ds, eqD n d d = some true) → eqL n ds ds = some true
  | [], _ => rfl
  | d :: ds, h => by
    show (match eqD n d d, eqL n ds ds with | some a, some b => some (a && b) | _, _ => none) = _
    rw [h d (List.mem_cons_self ..), eqL_refl n ds fun x hx => h x (List.mem_cons_of_mem _ hx)]
    rfl
def goesR (r : Row) (a l b : Nat) : Bool := (r.l == l) && ((r.a.isNone || r.a == some a) && (r.b.isNone || r.b == some b))
theorem nb_in (o : Option Nat) (a : Nat) : opM .in_ (nbD o) (.tup [.non, .str [a]]) = pure (.bl (o.isNone || o == some a)) := by
  refine o_in ?_
  cases o with
  | none => rfl
  | some c =>
    show (match inL (.str [c]) [.non, .str [a]] with | some b => pure b | none => M.fail) = _
    have e : inL (.str [c]) [.non, .str [a]] = some ([a] == [c]) := by
      show (match eqD dp (.non) (.str [c]), (match eqD dp (.str [a]) (.str [c]), (some false : Option Bool) with | some a, some b => some (a || b) | _, _ => none) with | some a, some b => some (a || b) | _, _ => none) = _
      show some (false || (([a] == [c]) || false)) = _
      simp
    rw [e]
    by_cases z : a = c
    · subst z; simp
    · have z' : c ≠ a := fun q => z q.symm
      have e1 : ([a] == [c]) = false := by simp [z]
      have e2 : ((some c : Option Nat) == some a) = false := by simp [z']
      rw [e1, e2]; rfl
theorem eq_1 (a b : Nat) : eqD dp (.str [a]) (.str [b]) = some (a == b) := by
  show some ([a] == [b]) = _
  by_cases z : a = b <;> simp [z]
theorem ok_goes (r : Row) (a l b : Nat) : d_goes [rowD r, .str [a], .str [l], .str [b]] = pure (.bl (goesR r a l b)) := by
  obtain ⟨i0, i1, i2, i3⟩ := row_ix r
  unfold d_goes c_goes
  rw [den4]
  simp [i0, i1, i2, o_eq (eq_1 r.l l), nb_in, andM_b, goesR]
def idxs {α : Type} (p : α → Bool) : Nat → List α → List Nat
  | _, [] => []
  | k, x :: xs => if p x then k :: idxs p (k + 1) xs else idxs p (k + 1) xs
def intsD (l : List Nat) : List D := l.map fun (n : Nat) => D.int (n : Int)
theorem idxs_head {α : Type} (p : α → Bool) : ∀ (xs : List α) (k : Nat), (idxs p k xs)[0]? = (xs.findIdx? p).map (k + ·)
  | [], k => rfl
  | x :: xs, k => by
    unfold idxs
    rw [List.findIdx?_cons]
    cases q : p x with
    | true => simp
    | false =>
      simp only [Bool.false_eq_true, if_false]
      rw [idxs_head p xs (k + 1), Option.map_map]
      congr 1
      funext n
      simp; omega
theorem ev_enumf {Φ : Fns} {i j : Nat} {it cnd : E} {m : Slots} {α : Type} {xs : List α} {u : α → D} {p : α → Bool} (hi : evI Φ it m = pure (enumD 0 (xs.map u))) (hl : xs.length < sz) (hm : i < m.length) (hij : i ≠ j)
    (hc : ∀ (k : Nat), ∀ x ∈ xs, evE Φ cnd (((wipeD m [i, j]).set i (some (.int k))).set j (some (u x))) = pure (.bl (p x))) : evE Φ (.comp (.many [i, j]) it (some cnd) (.slot i) [i, j]) m = pure (.lst (intsD (idxs p 0 xs))) := by
  show (evI Φ it m >>= _) = _
  rw [hi, pure_bnd]
  have key : ∀ (ys : List α) (k : Nat), (∀ x ∈ ys, x ∈ xs) → mapM' (fun x => bindD (.many [i, j]) x (wipeD m [i, j]) >>= fun m' => evC Φ (some cnd) m' >>= fun b => if b then evE Φ (.slot i) m' >>= fun y => pure (some y) else pure none) (enumD k (ys.map u)) = pure (intsD (idxs p k ys)) := by
    intro ys
    induction ys with
    | nil => intro k _; rfl
    | cons y ys ih =>
      intro k hy
      have e1 := hc k y (hy y (List.mem_cons_self ..))
      have e2 := ih (k + 1) fun x hx => hy x (List.mem_cons_of_mem _ hx)
      show ((bindD (.many [i, j]) (.tup [.int k, u y]) (wipeD m [i, j]) >>= _) >>= _) = _
      have eb : bindD (.many [i, j]) (.tup [.int k, u y]) (wipeD m [i, j]) = pure (((wipeD m [i, j]).set i (some (.int k))).set j (some (u y))) := rfl
      rw [eb, pure_bnd]
      show (((evE Φ cnd (((wipeD m [i, j]).set i (some (.int k))).set j (some (u y))) >>= D.asB) >>= _) >>= _) = _
      rw [e1, pure_bnd, asB_bl, pure_bnd]
      have g : evE Φ (.slot i) (((wipeD m [i, j]).set i (some (.int k))).set j (some (u y))) = pure (.int k) := by
        rw [v_slot, List.getElem?_set_ne (Ne.symm hij), List.getElem?_set_self (by simp [wipeD]; exact hm)]
        rfl
      unfold idxs
      cases q : p y with
      | false =>
        rw [if_neg (by decide), pure_bnd, e2, pure_bnd, if_neg (by decide)]
      | true =>
        rw [if_pos rfl, g, pure_bnd, pure_bnd, e2, pure_bnd, if_pos rfl]
        rfl
  rw [key xs 0 fun x hx => hx, shut_pure, pure_bnd, if_pos (by rw [enum_length, List.length_map]; exact hl)]
def rf (t : List Row) (a l b : Nat) : Nat := (t.findIdx? fun r => goesR r a l b).getD 0
def row0 : Row := ⟨none, 0, none, []⟩
def tx (t : List Row) (a l b : Nat) : List Nat := (t.getD (rf t a l b) row0).t
def Has (t : List Row) (l : Nat) : Prop := ∃ r ∈ t, r.l = l ∧ r.a = none ∧ r.b = none
theorem has_goes {t : List Row} {l : Nat} (h : Has t l) (a b : Nat) : ∃ r ∈ t, goesR r a l b = true := by
  obtain ⟨r, hr, e1, e2, e3⟩ := h
  exact ⟨r, hr, by simp [goesR, e1, e2, e3]⟩
theorem rf_some {t : List Row} {a l b : Nat} (h : Has t l) : t.findIdx? (fun r => goesR r a l b) = some (rf t a l b) ∧ rf t a l b < t.length := by
  obtain ⟨r, hr, g⟩ := has_goes h a b
  cases q : t.findIdx? (fun r => goesR r a l b) with
  | none =>
    rw [List.findIdx?_eq_none_iff] at q
    rw [q r hr] at g
    cases g
  | some n =>
    have e : rf t a l b = n := by unfold rf; rw [q]; rfl
    rw [e]
    exact ⟨rfl, (List.findIdx?_eq_some_iff_findIdx_eq.mp q).1⟩
theorem ok_row_for {t : List Row} {a l b : Nat} (h : Has t l) (hl : t.length ≤ 1000) : d_row_for [tabD t, .str [a], .str [l], .str [b]] = pure (.int (rf t a l b : Nat)) := by
  have e1 : evE (tab [d_goes]) (.comp (.many [4, 5]) (.ienum (.slot 0)) (some (.call 0 [.slot 5, .slot 1, .slot 2, .slot 3])) (.slot 4) [4, 5]) [some (tabD t), some (.str [a]), some (.str [l]), some (.str [b]), none, none] = pure (.lst (intsD (idxs (fun r => goesR r a l b) 0 t))) := by
    refine ev_enumf (u := rowD) (by simp [tabD]) (Nat.lt_of_le_of_lt hl (by decide)) (by simp) (by decide) fun k r _ => ?_
    simp [wipeD, ok_goes]
  unfold d_row_for c_row_for
  rw [den4]
  have r3 : (some (tabD t) :: some (D.str [a]) :: some (D.str [l]) :: some (D.str [b]) :: List.replicate (6 - 4) (none : Option D)) = [some (tabD t), some (.str [a]), some (.str [l]), some (.str [b]), none, none] := rfl
  rw [r3]
  have e2 : atD (intsD (idxs (fun r => goesR r a l b) 0 t)) 0 = some (.int (rf t a l b : Nat)) := by
    have q := idxs_head (fun r => goesR r a l b) t 0
    rw [(rf_some (a := a) (b := b) h).1] at q
    simp only [Option.map_some, Nat.zero_add] at q
    have q2 : (intsD (idxs (fun r => goesR r a l b) 0 t))[0]? = some (.int (rf t a l b : Nat)) := by
      unfold intsD
      rw [List.getElem?_map, q]
      rfl
    have lt := (List.getElem?_eq_some_iff.mp q2).1
    have := at_nat _ 0 lt
    rw [← List.getElem?_eq_getElem lt, q2] at this
    exact this
  simp only [x_cons, x_ret, v_idx, e1, v_cst, L2_pure, i_lst e2, L1_pure, retM_pure, seq_ret, end_ret]
theorem at_tab {t : List Row} {k : Nat} (h : k < t.length) : idxM (tabD t) (.int (k : Nat)) = pure (rowD (t.getD k row0)) := by
  refine i_tup ?_
  rw [at_nat _ k (by simpa using h)]
  simp [List.getD_eq_getElem?_getD, h]
theorem ok_told_by {t : List Row} {a l b : Nat} (h : Has t l) (hl : t.length ≤ 1000) : d_told_by [tabD t, .str [a], .str [l], .str [b]] = pure (.str (tx t a l b)) := by
  obtain ⟨_, lt⟩ := rf_some (a := a) (b := b) h
  obtain ⟨i0, i1, i2, i3⟩ := row_ix (t.getD (rf t a l b) row0)
  unfold d_told_by c_told_by
  rw [den4]
  simp [ok_row_for h hl, at_tab lt, i3]
  rfl
def insN (a : Nat) : List Nat → List Nat
  | [] => [a]
  | b :: r => if a = b then b :: r else if b < a then b :: insN a r else a :: b :: r
def sortN : List Nat → List Nat
  | [] => []
  | a :: r => insN a (sortN r)
def one (c : Nat) : List Nat := [c]
theorem insU_one (a : Nat) : ∀ l : List Nat, insU (one a) (l.map one) = (insN a l).map one
  | [] => rfl
  | b :: r => by
    show (if one a = one b then one b :: r.map one else if ltT (one b) (one a) then one b :: insU (one a) (r.map one) else one a :: one b :: r.map one) = _
    unfold insN
    have e1 : (one a = one b) ↔ a = b := by simp [one]
    have e2 : ltT (one b) (one a) = decide (b < a) := lt1 b a
    rw [e2, insU_one a r]
    by_cases z : a = b
    · rw [if_pos (e1.mpr z), if_pos z]; rfl
    · rw [if_neg (fun q => z (e1.mp q)), if_neg z]
      by_cases y : b < a
      · rw [if_pos (decide_eq_true y), if_pos y]; rfl
      · rw [if_neg (by simp [y]), if_neg y]; rfl
theorem sortU_one : ∀ l : List Nat, sortU (l.map one) = (sortN l).map one
  | [] => rfl
  | a :: r => by
    show insU (one a) (sortU (r.map one)) = _
    rw [sortU_one r, insU_one]
    rfl
theorem mem_insN {c a : Nat} : ∀ l : List Nat, c ∈ insN a l ↔ c = a ∨ c ∈ l
  | [] => by simp [insN]
  | b :: r => by
    unfold insN
    by_cases z : a = b
    · rw [if_pos z]; subst z; simp
    · rw [if_neg z]
      by_cases y : b < a
      · rw [if_pos y, List.mem_cons, mem_insN r, List.mem_cons]
        constructor
        · rintro (h | h | h) <;> simp [h]
        · rintro (h | h | h) <;> simp [h]
      · rw [if_neg y]; simp
theorem mem_sortN {c : Nat} : ∀ l : List Nat, c ∈ sortN l ↔ c ∈ l
  | [] => by simp [sortN]
  | a :: r => by
    show c ∈ insN a (sortN r) ↔ _
    rw [mem_insN, mem_sortN r, List.mem_cons]
theorem insN_len (a : Nat) : ∀ l : List Nat, (insN a l).length ≤ l.length + 1
  | [] => by simp [insN]
  | b :: r => by
    have := insN_len a r
    unfold insN
    split
    · simp
    · split <;> simp <;> omega
theorem sortN_len : ∀ l : List Nat, (sortN l).length ≤ l.length
  | [] => by simp [sortN]
  | a :: r => by
    have := insN_len a (sortN r)
    have := sortN_len r
    show (insN a (sortN r)).length ≤ r.length + 1
    omega
theorem insN_sorted (a : Nat) : ∀ l : List Nat, l.Pairwise (· < ·) → (insN a l).Pairwise (· < ·)
  | [], _ => by simp [insN]
  | b :: r, h => by
    rw [List.pairwise_cons] at h
    unfold insN
    by_cases z : a = b
    · rw [if_pos z, List.pairwise_cons]; exact h
    · rw [if_neg z]
      by_cases y : b < a
      · rw [if_pos y, List.pairwise_cons]
        refine ⟨fun c hc => ?_, insN_sorted a r h.2⟩
        rcases (mem_insN r).mp hc with rfl | hc
        · exact y
        · exact h.1 c hc
      · rw [if_neg y, List.pairwise_cons, List.pairwise_cons]
        refine ⟨fun c hc => ?_, h⟩
        rcases List.mem_cons.mp hc with rfl | hc
        · omega
        · have := h.1 c hc; omega
theorem sortN_sorted : ∀ l : List Nat, (sortN l).Pairwise (· < ·)
  | [] => List.Pairwise.nil
  | a :: r => insN_sorted a _ (sortN_sorted r)
def lets (t : List Row) : List Nat := sortN (t.map Row.l)
def letD (l : List Nat) : List D := l.map fun c => D.str [c]
theorem letD_eq (l : List Nat) : letD l = (l.map one).map D.str := by
  unfold letD; rw [List.map_map]; rfl
theorem b_sortSet (l : List Nat) (h : l.length < 64) : blt1M .sortedSet (.lst (letD l)) = pure (.lst (letD (sortN l))) := by
  show sortSetM (.lst (letD l)) = _
  unfold sortSetM
  dsimp only
  rw [letD_eq, strs_map]
  dsimp only
  rw [if_pos (by rw [List.length_map]; omega), sortU_one, letD_eq]
theorem lets_code {Φ : Fns} {F : Nat} (t : List Row) (h : t.length < 64) : denM Φ F 1 2 [.ret (.blt .sortedSet [.comp (.name 1) (.ival (.slot 0)) none (.idx (.slot 1) (.cst (.int 1))) [1]])] [tabD t] = pure (.lst (letD (lets t))) := by
  have e1 : evE Φ (.comp (.name 1) (.ival (.slot 0)) none (.idx (.slot 1) (.cst (.int 1))) [1]) [some (tabD t), none] = pure (.lst (t.map fun r => D.str [r.l])) := by
    refine ev_map (u := rowD) (by simp [tabD]) (Nat.lt_of_lt_of_le h (by decide)) fun r _ => ?_
    obtain ⟨i0, i1, i2, i3⟩ := row_ix r
    simp [wipeD, i1]
  have e2 : (t.map fun r => D.str [r.l]) = letD (t.map Row.l) := by unfold letD; rw [List.map_map]; rfl
  rw [den1]
  have r3 : (some (tabD t) :: List.replicate (2 - 1) (none : Option D)) = [some (tabD t), none] := rfl
  rw [r3]
  simp only [x_cons, x_ret, v_blt, v_acons, v_anil, e1, L2_pure, consM_pure, L1_pure, b_blt1, e2, b_sortSet _ (show (t.map Row.l).length < 64 by simpa using h), retM_pure, seq_ret, end_ret]
  rfl
theorem ok_letters_of (t : List Row) (h : t.length < 64) : d_letters_of [tabD t] = pure (.lst (letD (lets t))) := lets_code t h
theorem ok_law_letters (t : List Row) (h : t.length < 64) : d__law_letters [tabD t] = pure (.lst (letD (lets t))) := lets_code t h
theorem mem_lets {t : List Row} {c : Nat} : c ∈ lets t ↔ ∃ r ∈ t, r.l = c := by
  unfold lets
  rw [mem_sortN, List.mem_map]
structure Tab (t : List Row) : Prop where
  tb : tabB (tabD t) = true
  n1 : 1 ≤ t.length
  n10 : t.length ≤ 10
  rw : ∀ r ∈ t, Rw r
  has : ∀ l ∈ lets t, Has t l
theorem tab_of {t : List Row} (h : tabB (tabD t) = true) : Tab t := by
  have h' := h
  rw [tabB_typed] at h'
  simp only [Bool.and_eq_true, decide_eq_true_eq] at h'
  refine ⟨h, h'.1.1.1, h'.1.1.2, fun r hr => rw_of (List.all_eq_true.mp h'.1.2 (rowD r) (List.mem_map.mpr ⟨r, hr, rfl⟩)), fun l hl => ?_⟩
  obtain ⟨r, hr, rfl⟩ := mem_lets.mp hl
  have := List.all_eq_true.mp h'.2 r hr
  rw [List.any_eq_true] at this
  obtain ⟨b, hb, e⟩ := this
  obtain ⟨hb, q⟩ := List.mem_filter.mp hb
  simp [bareR] at q
  exact ⟨b, hb, by simpa using e, q.1, q.2⟩
theorem of_tab {t : List Row} (h1 : 1 ≤ t.length) (h10 : t.length ≤ 10) (hr : ∀ r ∈ t, Rw r) (hh : ∀ r ∈ t, Has t r.l) : Tab t := tab_of (by
  rw [tabB_typed]
  simp only [Bool.and_eq_true, decide_eq_true_eq]
  refine ⟨⟨⟨h1, h10⟩, ?_⟩, ?_⟩
  · rw [List.all_eq_true]
    intro d hd
    obtain ⟨r, hr', rfl⟩ := List.mem_map.mp hd
    exact row_of (hr r hr')
  · unfold allBare
    rw [List.all_eq_true]
    intro r hr'
    obtain ⟨b, hb, e1, e2, e3⟩ := hh r hr'
    rw [List.any_eq_true]
    exact ⟨b, List.mem_filter.mpr ⟨hb, by simp [bareR, e2, e3]⟩, by simp [e1]⟩)
theorem Tab.pl {t : List Row} (h : Tab t) : PlD (tabD t) := pl_tab h.tb
theorem Tab.look {t : List Row} (h : Tab t) : d_look_table [tabD t] = pure .non := look_ok h.pl h.tb
theorem Tab.l64 {t : List Row} (h : Tab t) : t.length < 64 := by have := h.n10; omega
theorem Tab.lets1 {t : List Row} (h : Tab t) : 1 ≤ (lets t).length ∧ (lets t).length ≤ 10 := by
  have l := sortN_len (t.map Row.l)
  rw [List.length_map] at l
  refine ⟨?_, Nat.le_trans l h.n10⟩
  obtain ⟨r, hr⟩ := List.exists_mem_of_length_pos h.n1
  exact List.length_pos_of_mem (mem_lets.mpr ⟨r, hr, rfl⟩)
theorem Tab.gr {t : List Row} (h : Tab t) : ∀ c ∈ lets t, isGr c = true := fun c hc => by
  obtain ⟨r, hr, rfl⟩ := mem_lets.mp hc
  exact (h.rw r hr).l
def wordB (t : List Row) : D → Bool
  | .str w => decide (w.length ≤ 24) && w.all fun c => (lets t).contains c
  | _ => false
theorem inM_letD (c : Nat) (l : List Nat) : inM (.str [c]) (.lst (letD l)) = pure (l.contains c) := by
  show (match inL (.str [c]) (letD l) with | some b => pure b | none => M.fail) = _
  rw [letD_eq, inL_strs]
  show pure _ = _
  congr 1
  rw [List.any_map, Bool.eq_iff_iff, List.any_eq_true, List.contains_iff_mem]
  constructor
  · rintro ⟨x, hx, q⟩
    have : x = c := by simpa [one] using q
    rw [← this]; exact hx
  · intro hc
    exact ⟨c, hc, by simp [one]⟩
theorem in_letD (c : Nat) (l : List Nat) : opM .in_ (.str [c]) (.lst (letD l)) = pure (.bl (l.contains c)) := o_in (inM_letD c l)
theorem ok_is_word_of {t : List Row} (ht : t.length < 64) {d : D} (h : PlD d) : d_is_word_of [tabD t, d] = pure (.bl (wordB t d)) := by
  unfold d_is_word_of c_is_word_of
  rw [den2]
  cases h with
  | str w hl =>
    have e1 : evE (tab [d_letters_of]) (.comp (.name 2) (.ival (.slot 1)) none (.bin .in_ (.slot 2) (.call 0 [.slot 0])) [2]) [some (tabD t), some (.str w), none] = pure (.lst (w.map fun c => D.bl ((lets t).contains c))) := by
      refine ev_map (u := fun c => D.str [c]) (by simp; rfl) (Nat.lt_of_le_of_lt hl million) fun c _ => ?_
      simp only [wipeD, List.set_cons_succ, List.set_cons_zero, v_bin, v_call, v_slot, v_acons, v_anil, List.getElem?_cons_zero, List.getElem?_cons_succ, getS_some, L1_pure, L2_pure, consM_pure, tab0, ok_letters_of t ht, in_letD]
    have r3 : (some (tabD t) :: some (D.str w) :: List.replicate (3 - 2) (none : Option D)) = [some (tabD t), some (.str w), none] := rfl
    have z : w.length ≤ sz := Nat.le_of_lt (Nat.lt_of_le_of_lt hl million)
    have i5 : isM .str (.str w) = pure (.bl true) := rfl
    have e24 : decide ((w.length : Int) ≤ 24) = decide (w.length ≤ 24) := by
      rw [Bool.eq_iff_iff, decide_eq_true_eq, decide_eq_true_eq]; omega
    rw [r3]
    simp only [x_cons, x_ret, v_and, v_isi, v_bin, v_blt, v_acons, v_anil, v_slot, v_cst, List.getElem?_cons_zero, List.getElem?_cons_succ, getS_some, L1_pure, L2_pure, consM_pure, b_blt1, i5, andM_t, b_lenX w z, o_leI, e1, b_allf, andM_b, e24, retM_pure, seq_ret, end_ret]
    rfl
  | tup ds _ _ => rfl
  | lst ds _ _ => rfl
  | int i => rfl
  | bl b => rfl
  | non => rfl
end WB.C
namespace WB.C
open WB
def trk (w : List Nat) (k : Nat) : Nat × Nat × Nat := (if k = 0 then 35 else w.getD (k - 1) 0, w.getD k 0, if k + 1 < w.length then w.getD (k + 1) 0 else 35)
def tri (w : List Nat) : List (Nat × Nat × Nat) := (List.range w.length).map (trk w)
def ru (t : List Row) (w : List Nat) : List Nat := (tri w).map fun x => rf t x.1 x.2.1 x.2.2
def wr (t : List Row) (w : List Nat) : List Nat := ((tri w).map fun x => tx t x.1 x.2.1 x.2.2).flatten
theorem around (w : List Nat) (k : Nat) (h : k < w.length) : atD (35 :: (w ++ [35])) (k : Int) = some (trk w k).1 ∧ atD (35 :: (w ++ [35])) ((k : Int) + 1) = some (trk w k).2.1 ∧ atD (35 :: (w ++ [35])) ((k : Int) + 2) = some (trk w k).2.2 := by
  have l : (35 :: (w ++ [35])).length = w.length + 2 := by simp
  refine ⟨?_, ?_, ?_⟩
  · rw [at_nat _ k (by rw [l]; omega)]
    congr 1
    unfold trk
    cases k with
    | zero => rfl
    | succ n =>
      have hn : n < w.length := by omega
      simp [List.getElem_append, hn, List.getD_eq_getElem?_getD]
  · have e : (k : Int) + 1 = ((k + 1 : Nat) : Int) := by omega
    rw [e, at_nat _ (k + 1) (by rw [l]; omega)]
    congr 1
    unfold trk
    simp [List.getElem_append, h, List.getD_eq_getElem?_getD]
  · have e : (k : Int) + 2 = ((k + 1 + 1 : Nat) : Int) := by omega
    rw [e, at_nat _ (k + 1 + 1) (by rw [l]; omega)]
    congr 1
    unfold trk
    by_cases c : k + 1 < w.length
    · simp [List.getElem_append, c, List.getD_eq_getElem?_getD]
    · simp [List.getElem_append, c]
theorem trk_mid {w : List Nat} {k : Nat} (h : k < w.length) : (trk w k).2.1 ∈ w := by
  unfold trk
  simp [List.getD_eq_getElem?_getD, h]
theorem tri_mid {w : List Nat} {x : Nat × Nat × Nat} (h : x ∈ tri w) : x.2.1 ∈ w := by
  obtain ⟨k, hk, rfl⟩ := List.mem_map.mp h
  exact trk_mid (List.mem_range.mp hk)
theorem tri_len (w : List Nat) : (tri w).length = w.length := by simp [tri]
theorem rng_map (n : Nat) : rngD 0 1 n = (List.range n).map fun (k : Nat) => D.int (k : Int) := by
  apply List.ext_getElem?
  intro i
  by_cases h : i < n
  · have l : i < (rngD 0 1 n).length := by rw [rng_length]; exact h
    have := (rng_at (List.getElem?_eq_getElem l)).2
    rw [List.getElem?_eq_getElem l, this]
    simp [h]
  · rw [List.getElem?_eq_none (by rw [rng_length]; omega), List.getElem?_eq_none (by simp; omega)]
theorem rngM1 (n : Nat) (h : n ≤ 1000000000) : rngM [.int (n : Nat)] = pure ((List.range n).map fun (k : Nat) => D.int (k : Int)) := by
  show (if inB (n : Int) then pure (rngD 0 1 (n : Int).toNat) else M.fail) = _
  rw [if_pos (by unfold inB; simp; omega)]
  have e : ((n : Int)).toNat = n := by omega
  rw [e, rng_map]
theorem tx_len {t : List Row} (h : Tab t) {a l b : Nat} (hl : l ∈ lets t) : 1 ≤ (tx t a l b).length ∧ (tx t a l b).length ≤ 3 := by
  obtain ⟨_, lt⟩ := rf_some (a := a) (b := b) (h.has l hl)
  unfold tx
  have e : t.getD (rf t a l b) row0 = t[rf t a l b] := by simp [List.getD_eq_getElem?_getD, lt]
  rw [e]
  have := h.rw t[rf t a l b] (List.getElem_mem lt)
  exact ⟨this.t1, this.t3⟩
theorem sum_le {l : List (List Nat)} {n : Nat} (h : ∀ x ∈ l, x.length ≤ n) : (l.map List.length).sum ≤ n * l.length := by
  induction l with
  | nil => simp
  | cons a r ih =>
    have := ih fun x hx => h x (List.mem_cons_of_mem _ hx)
    have := h a (List.mem_cons_self ..)
    simp only [List.map_cons, List.sum_cons, List.length_cons]
    rw [Nat.mul_add]
    omega
section
variable {t : List Row} (ht : Tab t) {w : List Nat} (hw : ∀ c ∈ w, c ∈ lets t) (wl : w.length ≤ 1000)
theorem add_edges (wl : w.length ≤ 1000) : opM .add (.str [35]) (.str w) = pure (.str (35 :: w)) ∧ opM .add (.str (35 :: w)) (.str [35]) = pure (.str (35 :: (w ++ [35]))) := by
  constructor
  · rw [o_addS _ _ (by simp [sz]; omega)]; rfl
  · rw [o_addS _ _ (by simp [sz]; omega)]; rfl
include ht hw wl
theorem ok_written_of : d_written_of [tabD t, .str w] = pure (.str (wr t w)) := by
  obtain ⟨a1, a2⟩ := add_edges wl
  have sl : (35 :: (w ++ [35])).length ≤ sz := by simp [sz]; omega
  have z : w.length ≤ sz := by simp [sz]; omega
  have e1 : evE (tab [d_told_by]) (.comp (.name 3) (.irng [.blt .len [.slot 1]]) none (.call 0 [.slot 0, .idx (.slot 2) (.slot 3), .idx (.slot 2) (.bin .add (.slot 3) (.cst (.int 1))), .idx (.slot 2) (.bin .add (.slot 3) (.cst (.int 2)))]) [3]) [some (tabD t), some (.str w), some (.str (35 :: (w ++ [35]))), none] = pure (.lst ((List.range w.length).map fun k => D.str (tx t (trk w k).1 (trk w k).2.1 (trk w k).2.2))) := by
    refine ev_map (u := fun (k : Nat) => D.int (k : Int)) ?_ (by simp [sz]; omega) fun k hk => ?_
    · simp only [v_irng, v_blt, v_acons, v_anil, v_slot, List.getElem?_cons_zero, List.getElem?_cons_succ, getS_some, L1_pure, L2_pure, consM_pure, b_blt1, b_lenX w z]
      exact rngM1 _ (by omega)
    · have kl := List.mem_range.mp hk
      obtain ⟨g1, g2, g3⟩ := around w k kl
      simp only [wipeD, List.set_cons_succ, List.set_cons_zero, v_call, v_idx, v_bin, v_acons, v_anil, v_slot, v_cst, List.getElem?_cons_zero, List.getElem?_cons_succ, getS_some, L1_pure, L2_pure, consM_pure, o_addI, i_str sl g1, i_str sl g2, i_str sl g3, tab0]
      exact ok_told_by (ht.has _ (hw _ (trk_mid kl))) (by have := ht.n10; omega)
  unfold d_written_of c_written_of
  rw [den2]
  have r3 : (some (tabD t) :: some (D.str w) :: List.replicate (4 - 2) (none : Option D)) = [some (tabD t), some (.str w), none, none] := rfl
  rw [r3]
  simp only [x_cons, x_set, v_bin, v_cst, v_slot, List.getElem?_cons_zero, List.getElem?_cons_succ, getS_some, L1_pure, L2_pure, a1, a2, setM_pure, seq_next, List.set_cons_succ, List.set_cons_zero, x_ret, v_mth, v_acons, v_anil, e1, ifTy_s, consM_pure]
  have e2 : ((List.range w.length).map fun k => D.str (tx t (trk w k).1 (trk w k).2.1 (trk w k).2.2)) = (((tri w).map fun x => tx t x.1 x.2.1 x.2.2)).map D.str := by simp [tri]
  rw [e2, m_join0]
  · rfl
  · refine Nat.le_trans (sum_le (n := 3) fun x hx => ?_) (by simp [tri_len, sz]; omega)
    obtain ⟨y, hy, rfl⟩ := List.mem_map.mp hx
    exact (tx_len ht (hw _ (tri_mid hy))).2
end
theorem word_of {t : List Row} {w : List Nat} (h : wordB t (.str w) = true) : w.length ≤ 24 ∧ ∀ c ∈ w, c ∈ lets t := by
  unfold wordB at h
  rw [Bool.and_eq_true, decide_eq_true_eq, List.all_eq_true] at h
  exact ⟨h.1, fun c hc => List.contains_iff_mem.mp (h.2 c hc)⟩
end WB.C
namespace WB.C
open WB
theorem for_acc {Φ : Fns} {F : Nat} {tg : Tg} {body : List S} {α β : Type} {u : α → D} {J : List β → Slots → Prop} {f : α → List β} {N : Nat} : ∀ (xs : List α) (acc : List β) (m : Slots), J acc m → (acc ++ xs.flatMap f).length ≤ N →
    (∀ acc x m, x ∈ xs → (acc ++ f x).length ≤ N → J acc m → ∃ m', (bindD tg (u x) m >>= fun m' => exL Φ F body m') = pure (.next m') ∧ J (acc ++ f x) m') → ∃ m', forX Φ F tg body m (xs.map u) = pure (.next m') ∧ J (acc ++ xs.flatMap f) m'
  | [], acc, m, h, _, _ => ⟨m, rfl, by simpa using h⟩
  | x :: xs, acc, m, h, hN, hs => by
    rw [List.flatMap_cons, ← List.append_assoc] at hN
    obtain ⟨m1, e1, j1⟩ := hs acc x m (List.mem_cons_self ..) (by rw [List.length_append] at hN; omega) h
    obtain ⟨m2, e2, j2⟩ := for_acc xs (acc ++ f x) m1 j1 hN fun acc y m hy => hs acc y m (List.mem_cons_of_mem _ hy)
    refine ⟨m2, ?_, by rw [List.flatMap_cons, ← List.append_assoc]; exact j2⟩
    show ((bindD tg (u x) m >>= fun m' => exL Φ F body m') >>= _) = _
    rw [e1]
    exact e2
theorem for_first {Φ : Fns} {F : Nat} {tg : Tg} {body : List S} {α : Type} {u : α → D} {p : α → Bool} {J : Slots → Prop} {K : Nat → Slots → Prop} : ∀ (xs : List α) (k n : Nat) (m : Slots), J m → xs.findIdx? p = some n →
    (∀ (i : Nat) x m, x ∈ xs → J m → if p x = true then ∃ m', (bindD tg (.tup [.int i, u x]) m >>= fun m' => exL Φ F body m') = pure (.brk m') ∧ K i m' else ∃ m', (bindD tg (.tup [.int i, u x]) m >>= fun m' => exL Φ F body m') = pure (.next m') ∧ J m') → ∃ m', forX Φ F tg body m (enumD k (xs.map u)) = pure (.next m') ∧ K (k + n) m'
  | [], k, n, m, _, e, _ => by simp at e
  | x :: xs, k, n, m, h, e, hs => by
    have h1 := hs k x m (List.mem_cons_self ..) h
    rw [List.findIdx?_cons] at e
    cases q : p x with
    | true =>
      rw [q] at h1 e
      simp at e
      subst e
      obtain ⟨m', e1, k1⟩ := h1
      refine ⟨m', ?_, k1⟩
      show ((bindD tg (.tup [.int k, u x]) m >>= fun m' => exL Φ F body m') >>= _) = _
      rw [e1]
      rfl
    | false =>
      rw [q] at h1 e
      obtain ⟨m', e1, j1⟩ := h1
      simp at e
      obtain ⟨n', e2, rfl⟩ := e
      obtain ⟨m2, e3, k3⟩ := for_first xs (k + 1) n' m' j1 e2 fun i y m hy => hs i y m (List.mem_cons_of_mem _ hy)
      refine ⟨m2, ?_, by have : k + (n' + 1) = k + 1 + n' := by omega
                         rw [this]; exact k3⟩
      show ((bindD tg (.tup [.int k, u x]) m >>= fun m' => exL Φ F body m') >>= _) = _
      rw [e1]
      exact e3
theorem goes_and (r : Row) (a l b : Nat) : andM (L2 (opM .eq) (idxM (rowD r) (.int 1)) (pure (.str [l]))) (andM (L2 (opM .in_) (idxM (rowD r) (.int 0)) (pure (.tup [.non, .str [a]]))) (L2 (opM .in_) (idxM (rowD r) (.int 2)) (pure (.tup [.non, .str [b]])))) = pure (.bl (goesR r a l b)) := by
  obtain ⟨i0, i1, i2, i3⟩ := row_ix r
  rw [i0, i1, i2]
  simp only [L2_pure, o_eq (eq_1 r.l l), nb_in, andM_b, goesR]
theorem enum_map {α : Type} (u : α → D) (xs : List α) (k : Nat) : enumD k (xs.map u) = (xs.zipIdx k).map fun p => D.tup [.int (p.2 : Nat), u p.1] := by
  induction xs generalizing k with
  | nil => rfl
  | cons x xs ih => simp [enumD, ih, List.zipIdx_cons]
theorem ok_law_rows_by {t : List Row} (ht : Tab t) {w : List Nat} (hw : ∀ c ∈ w, c ∈ lets t) (wl : w.length ≤ 1000) : d__law_rows_by [tabD t, .str w] = pure (.lst (intsD (ru t w))) := by
  have z : w.length ≤ sz := by simp [sz]; omega
  unfold d__law_rows_by c__law_rows_by
  rw [den2]
  have r3 : (some (tabD t) :: some (D.str w) :: List.replicate (9 - 2) (none : Option D)) = [some (tabD t), some (.str w), none, none, none, none, none, none, none] := rfl
  rw [r3]
  simp only [x_cons, x_setO, v_lst, v_anil, L1_pure, lstM_nil, setOM_lst, seq_next, List.set_cons_succ, List.set_cons_zero, x_for, v_ienum, v_slot, List.getElem?_cons_zero, List.getElem?_cons_succ, getS_some, enuM_str]
  have es : enumD 0 (signs w) = (List.range w.length).map fun (k : Nat) => D.tup [.int (k : Int), .str [w.getD k 0]] := by
    unfold signs
    rw [enum_map]
    apply List.ext_getElem?
    intro i
    rw [List.getElem?_map, List.getElem?_map, List.getElem?_zipIdx]
    by_cases c : i < w.length
    · rw [List.getElem?_range c]
      simp [c, List.getD_eq_getElem?_getD]
    · rw [List.getElem?_eq_none (l := List.range w.length) (by simp; omega)]
      simp [c]
  rw [es]
  have key := for_acc (Φ := tab []) (F := 1000) (tg := .many [3, 4]) (body := [.set 5 (.ite (.bin .gt (.slot 3) (.cst (.int 0))) (.idx (.slot 1) (.bin .sub (.slot 3) (.cst (.int 1)))) (.cst (.str [35]))), .set 6 (.ite (.bin .lt (.bin .add (.slot 3) (.cst (.int 1))) (.blt .len [.slot 1])) (.idx (.slot 1) (.bin .add (.slot 3) (.cst (.int 1)))) (.cst (.str [35]))), .forS (.many [7, 8]) (.ienum (.slot 0)) [.ifS (.and (.bin .eq (.idx (.slot 8) (.cst (.int 1))) (.slot 4)) (.and (.bin .in_ (.idx (.slot 8) (.cst (.int 0))) (.tup [.cst .non, .slot 5])) (.bin .in_ (.idx (.slot 8) (.cst (.int 2))) (.tup [.cst .non, .slot 6])))) [.app 2 (.slot 7), .brk] []]])
    (u := fun (k : Nat) => D.tup [.int (k : Int), .str [w.getD k 0]]) (J := fun (acc : List Nat) m => ∃ x3 x4 x5 x6 x7 x8, m = [some (tabD t), some (.str w), some (.lst (intsD acc)), x3, x4, x5, x6, x7, x8]) (f := fun k => [rf t (trk w k).1 (trk w k).2.1 (trk w k).2.2]) (N := 1000) (List.range w.length) [] [some (tabD t), some (.str w), some (.lst []), none, none, none, none, none, none] ⟨_, _, _, _, _, _, rfl⟩ (by rw [List.nil_append, ← List.map_eq_flatMap]; simp; omega) ?_
  · refine seq_for (fun q => L1 endM q = _) key ?_
    rintro m' ⟨x3, x4, x5, x6, x7, x8, rfl⟩
    simp only [x_cons, x_ret, v_slot, List.getElem?_cons_zero, List.getElem?_cons_succ, getS_some, L1_pure, retM_pure, seq_ret, end_ret, List.nil_append]
    congr 3
    unfold ru tri
    rw [List.map_map, List.map_eq_flatMap]
    rfl
  · rintro acc k m hk hN ⟨x3, x4, x5, x6, x7, x8, rfl⟩
    have kl := List.mem_range.mp hk
    have eb : bindD (.many [3, 4]) (.tup [.int (k : Nat), .str [w.getD k 0]]) [some (tabD t), some (.str w), some (.lst (intsD acc)), x3, x4, x5, x6, x7, x8] = pure [some (tabD t), some (.str w), some (.lst (intsD acc)), some (.int k), some (.str [w.getD k 0]), x5, x6, x7, x8] := rfl
    rw [eb, pure_bnd]
    have e5 : iteM (pure (.bl (decide ((0 : Int) < (k : Int))))) (idxM (.str w) (.int ((k : Int) - 1))) (pure (.str [35])) = (pure (.str [(trk w k).1]) : M D) := by
      rw [iteM_b]
      by_cases c : k = 0
      · subst c; rfl
      · have c' : (0 : Int) < (k : Int) := by omega
        rw [decide_eq_true c', if_pos rfl]
        have e : (k : Int) - 1 = ((k - 1 : Nat) : Int) := by omega
        have lt : k - 1 < w.length := by omega
        rw [e, i_str z (at_nat w (k - 1) lt)]
        unfold trk
        simp [c, List.getD_eq_getElem?_getD, lt]
    have e6 : iteM (pure (.bl (decide ((k : Int) + 1 < (w.length : Int))))) (idxM (.str w) (.int ((k : Int) + 1))) (pure (.str [35])) = (pure (.str [(trk w k).2.2]) : M D) := by
      rw [iteM_b]
      by_cases c : k + 1 < w.length
      · have c' : (k : Int) + 1 < (w.length : Int) := by omega
        rw [decide_eq_true c', if_pos rfl]
        have e : (k : Int) + 1 = ((k + 1 : Nat) : Int) := by omega
        rw [e, i_str z (at_nat w (k + 1) c)]
        unfold trk
        simp [c, List.getD_eq_getElem?_getD]
      · have c' : ¬ ((k : Int) + 1 < (w.length : Int)) := by omega
        rw [decide_eq_false c', if_neg (by decide)]
        unfold trk
        simp [c]
    have e4 : w.getD k 0 = (trk w k).2.1 := rfl
    simp only [x_cons, x_set, v_ite, v_bin, v_slot, v_cst, v_idx, v_blt, v_acons, v_anil, List.getElem?_cons_zero, List.getElem?_cons_succ, getS_some, L1_pure, L2_pure, consM_pure, b_blt1, b_lenX w z, o_gtI, o_subI, o_addI, o_ltI, e5, e6, setM_pure, seq_next, List.set_cons_succ, List.set_cons_zero, x_for, v_ienum, tabD, enuM_tup]
    have hh := ht.has _ (hw _ (trk_mid kl))
    have inner := for_first (Φ := tab []) (F := 1000) (tg := .many [7, 8]) (body := [.ifS (.and (.bin .eq (.idx (.slot 8) (.cst (.int 1))) (.slot 4)) (.and (.bin .in_ (.idx (.slot 8) (.cst (.int 0))) (.tup [.cst .non, .slot 5])) (.bin .in_ (.idx (.slot 8) (.cst (.int 2))) (.tup [.cst .non, .slot 6])))) [.app 2 (.slot 7), .brk] []])
      (u := rowD) (p := fun r => goesR r (trk w k).1 (trk w k).2.1 (trk w k).2.2) (J := fun m => ∃ x7 x8, m = [some (.tup (t.map rowD)), some (.str w), some (.lst (intsD acc)), some (.int k), some (.str [w.getD k 0]), some (.str [(trk w k).1]), some (.str [(trk w k).2.2]), x7, x8]) (K := fun n m => ∃ x7 x8, m = [some (.tup (t.map rowD)), some (.str w), some (.lst (intsD (acc ++ [n]))), some (.int k), some (.str [w.getD k 0]), some (.str [(trk w k).1]), some (.str [(trk w k).2.2]), x7, x8]) t 0 _ _ ⟨x7, x8, rfl⟩ (rf_some hh).1 ?_
    · obtain ⟨m', e, y7, y8, rfl⟩ := inner
      rw [e, seq_next, Nat.zero_add]
      exact ⟨_, rfl, _, _, _, _, _, _, rfl⟩
    · rintro i r m hr ⟨y7, y8, rfl⟩
      have eb2 : bindD (.many [7, 8]) (.tup [.int (i : Nat), rowD r]) [some (D.tup (t.map rowD)), some (.str w), some (.lst (intsD acc)), some (.int k), some (.str [w.getD k 0]), some (.str [(trk w k).1]), some (.str [(trk w k).2.2]), y7, y8] = pure [some (D.tup (t.map rowD)), some (.str w), some (.lst (intsD acc)), some (.int k), some (.str [w.getD k 0]), some (.str [(trk w k).1]), some (.str [(trk w k).2.2]), some (.int i), some (rowD r)] := rfl
      have al : (intsD acc).length < sz := by
        unfold intsD; rw [List.length_map]; rw [List.length_append] at hN; simp at hN; simp [sz]; omega
      have g := goes_and r (trk w k).1 (trk w k).2.1 (trk w k).2.2
      have body : ∀ x : M Fl, x = exL (tab []) 1000 [.ifS (.and (.bin .eq (.idx (.slot 8) (.cst (.int 1))) (.slot 4)) (.and (.bin .in_ (.idx (.slot 8) (.cst (.int 0))) (.tup [.cst .non, .slot 5])) (.bin .in_ (.idx (.slot 8) (.cst (.int 2))) (.tup [.cst .non, .slot 6])))) [.app 2 (.slot 7), .brk] []] [some (D.tup (t.map rowD)), some (.str w), some (.lst (intsD acc)), some (.int k), some (.str [w.getD k 0]), some (.str [(trk w k).1]), some (.str [(trk w k).2.2]), some (.int i), some (rowD r)] → if goesR r (trk w k).1 (trk w k).2.1 (trk w k).2.2 = true then x = pure (.brk [some (D.tup (t.map rowD)), some (.str w), some (.lst (intsD (acc ++ [i]))), some (.int k), some (.str [w.getD k 0]), some (.str [(trk w k).1]), some (.str [(trk w k).2.2]), some (.int i), some (rowD r)]) else x = pure (.next [some (D.tup (t.map rowD)), some (.str w), some (.lst (intsD acc)), some (.int k), some (.str [w.getD k 0]), some (.str [(trk w k).1]), some (.str [(trk w k).2.2]), some (.int i), some (rowD r)]) := by
        intro x ex
        subst ex
        simp only [e4, x_cons, x_if, v_and, v_bin, v_idx, v_slot, v_cst, v_tup, v_acons, v_anil, List.getElem?_cons_zero, List.getElem?_cons_succ, getS_some, L1_pure, L2_pure, consM_pure, tupM2, g]
        cases q : goesR r (trk w k).1 (trk w k).2.1 (trk w k).2.2 with
        | true =>
          simp only [iteM_t, x_cons, x_app, v_slot, List.getElem?_cons_zero, List.getElem?_cons_succ, getS_some, L2_pure, appS_lst _ _ _ al, seq_next, x_brk, seq_brk, if_true, List.set_cons_succ, List.set_cons_zero]
          congr 4
          simp [intsD]
        | false => rfl
      rw [eb2, pure_bnd]
      have b := body _ rfl
      cases q : goesR r (trk w k).1 (trk w k).2.1 (trk w k).2.2 with
      | true =>
        rw [q, if_pos rfl] at b
        exact ⟨_, b, _, _, rfl⟩
      | false =>
        rw [q, if_neg (by decide)] at b
        exact ⟨_, b, _, _, rfl⟩
theorem ru_lt {t : List Row} (ht : Tab t) {w : List Nat} (hw : ∀ c ∈ w, c ∈ lets t) : ∀ n ∈ ru t w, n < t.length := fun n hn => by
  obtain ⟨x, hx, rfl⟩ := List.mem_map.mp hn
  exact (rf_some (ht.has _ (hw _ (tri_mid hx)))).2
theorem ok_law_written {t : List Row} (ht : Tab t) {w : List Nat} (hw : ∀ c ∈ w, c ∈ lets t) (wl : w.length ≤ 1000) : d__law_written [tabD t, .str w] = pure (.str (wr t w)) := by
  have e1 : evE (tab [d__law_rows_by]) (.comp (.name 2) (.ival (.call 0 [.slot 0, .slot 1])) none (.idx (.idx (.slot 0) (.slot 2)) (.cst (.int 3))) [2]) [some (tabD t), some (.str w), none] = pure (.lst ((ru t w).map fun n => D.str (t.getD n row0).t)) := by
    refine ev_map (u := fun (n : Nat) => D.int (n : Int)) ?_ (by simp [ru, tri_len, sz]; omega) fun n hn => ?_
    · simp only [v_ival, v_call, v_acons, v_anil, v_slot, List.getElem?_cons_zero, List.getElem?_cons_succ, getS_some, L1_pure, L2_pure, consM_pure, tab0, ok_law_rows_by ht hw wl, items_lst]
      rfl
    · obtain ⟨i0, i1, i2, i3⟩ := row_ix (t.getD n row0)
      simp only [wipeD, List.set_cons_succ, List.set_cons_zero, v_idx, v_slot, v_cst, List.getElem?_cons_zero, List.getElem?_cons_succ, getS_some, L2_pure, at_tab (ru_lt ht hw n hn), i3]
  unfold d__law_written c__law_written
  rw [den2]
  have r3 : (some (tabD t) :: some (D.str w) :: List.replicate (3 - 2) (none : Option D)) = [some (tabD t), some (.str w), none] := rfl
  rw [r3]
  have e2 : ((ru t w).map fun n => D.str (t.getD n row0).t) = ((tri w).map fun x => tx t x.1 x.2.1 x.2.2).map D.str := by simp [ru, tx]
  simp only [x_cons, x_ret, v_mth, v_cst, v_acons, v_anil, e1, e2, L1_pure, L2_pure, ifTy_s, consM_pure]
  rw [m_join0]
  · rfl
  · refine Nat.le_trans (sum_le (n := 3) fun x hx => ?_) (by simp [tri_len, sz]; omega)
    obtain ⟨y, hy, rfl⟩ := List.mem_map.mp hx
    exact (tx_len ht (hw _ (tri_mid hy))).2
end WB.C
namespace WB.C
open WB
theorem inL_ints (n : Nat) : ∀ l : List Nat, inL (.int (n : Nat)) (intsD l) = some (l.contains n)
  | [] => rfl
  | a :: l => by
    show (match eqD dp (.int (a : Nat)) (.int (n : Nat)), inL (.int (n : Nat)) (intsD l) with | some a, some b => some (a || b) | _, _ => none) = _
    rw [inL_ints n l]
    show some (((a : Int) == (n : Int)) || l.contains n) = _
    rw [List.contains_cons]
    congr 2
    by_cases z : a = n
    · subst z; simp
    · have h1 : ¬ ((a : Int) = (n : Int)) := by omega
      have h2 : ¬ (n = a) := fun q => z q.symm
      rw [beq_eq_false_iff_ne.mpr h1, beq_eq_false_iff_ne.mpr h2]
theorem notin_ints (n : Nat) (l : List Nat) : opM .notin (.int (n : Nat)) (.lst (intsD l)) = pure (.bl (!l.contains n)) := o_notin (by
  show (match inL (.int (n : Nat)) (intsD l) with | some b => pure b | none => M.fail) = _
  rw [inL_ints])
theorem intsD_app (a b : List Nat) : intsD (a ++ b) = intsD a ++ intsD b := by simp [intsD]
theorem intsD_len (a : List Nat) : (intsD a).length = a.length := by simp [intsD]
def edges (t : List Row) : List Nat := lets t ++ [35]
def seen (t : List Row) : List Nat := (edges t).flatMap fun a => (lets t).flatMap fun l => (edges t).map fun b => rf t a l b
def nu (t : List Row) : List Nat := (List.range t.length).filter fun n => !(seen t).contains n
theorem letD_app (a b : List Nat) : letD (a ++ b) = letD a ++ letD b := by simp [letD]
theorem letD_len (a : List Nat) : (letD a).length = a.length := by simp [letD]
theorem flat_len {α β : Type} (f : α → List β) (n : Nat) : ∀ l : List α, (∀ x ∈ l, (f x).length = n) → (l.flatMap f).length = l.length * n
  | [], _ => by simp
  | x :: l, h => by
    rw [List.flatMap_cons, List.length_append, h x (List.mem_cons_self ..), flat_len f n l fun y hy => h y (List.mem_cons_of_mem _ hy), List.length_cons, Nat.add_mul]
    omega
theorem ok_never_used {t : List Row} (ht : Tab t) : d_never_used [tabD t] = pure (.lst (intsD (nu t))) := by
  obtain ⟨l1, l10⟩ := ht.lets1
  have el : (edges t).length = (lets t).length + 1 := by simp [edges]
  have n10 := ht.n10
  unfold d_never_used c_never_used
  rw [den1]
  have r3 : (some (tabD t) :: List.replicate (7 - 1) (none : Option D)) = [some (tabD t), none, none, none, none, none, none] := rfl
  rw [r3]
  have ea : opM .add (.lst (letD (lets t))) (.lst [.str [35]]) = pure (.lst (letD (edges t))) := by
    rw [o_addL _ _ (by rw [letD_len]; simp [sz]; omega)]
    unfold edges
    rw [letD_app]
    rfl
  simp only [x_cons, x_expr, v_call, v_acons, v_anil, v_slot, List.getElem?_cons_zero, List.getElem?_cons_succ, getS_some, L1_pure, L2_pure, consM_pure, tab0, tab1, ht.look, dropM_pure, seq_next, x_set, v_bin, v_lst, v_cst, lstM1, ok_letters_of t ht.l64, ea, setM_pure, List.set_cons_succ, List.set_cons_zero, x_setO, lstM_nil, setOM_lst, x_for, v_ival, items_lst]
  have key := for_acc (Φ := tab [d_look_table, d_letters_of, d_row_for]) (F := 1000) (tg := .name 3) (body := [.forS (.name 4) (.ival (.call 1 [.slot 0])) [.ext 2 (.comp (.name 6) (.ival (.slot 1)) none (.call 2 [.slot 0, .slot 3, .slot 4, .slot 6]) [6])]])
    (u := fun c => D.str [c]) (J := fun (acc : List Nat) m => ∃ x3 x4 x6, m = [some (tabD t), some (.lst (letD (edges t))), some (.lst (intsD acc)), x3, x4, none, x6]) (f := fun a => (lets t).flatMap fun l => (edges t).map fun b => rf t a l b) (N := 2000) (edges t) [] [some (tabD t), some (.lst (letD (edges t))), some (.lst []), none, none, none, none] ⟨_, _, _, rfl⟩ ?_ ?_
  · refine seq_for (fun q => L1 endM q = _) key ?_
    rintro m' ⟨x3, x4, x6, rfl⟩
    have e1 : evE (tab [d_look_table, d_letters_of, d_row_for]) (.comp (.name 5) (.irng [.blt .len [.slot 0]]) (some (.bin .notin (.slot 5) (.slot 2))) (.slot 5) [5]) [some (tabD t), some (.lst (letD (edges t))), some (.lst (intsD ([] ++ seen t))), x3, x4, none, x6] = pure (.lst ((((List.range t.length).filter fun n => !(seen t).contains n)).map fun (n : Nat) => D.int (n : Int))) := by
      refine ev_filter (u := fun (n : Nat) => D.int (n : Int)) ?_ (by simp [sz]; omega) (fun n _ => ?_) fun n _ _ => ?_
      · simp only [v_irng, v_blt, v_acons, v_anil, v_slot, List.getElem?_cons_zero, getS_some, L1_pure, L2_pure, consM_pure, b_blt1, tabD, b_lenT, List.length_map]
        exact rngM1 _ (by omega)
      · simp only [wipeD, List.set_cons_succ, List.set_cons_zero, v_bin, v_slot, List.getElem?_cons_zero, List.getElem?_cons_succ, getS_some, L2_pure, notin_ints, List.nil_append]
      · simp only [wipeD, List.set_cons_succ, List.set_cons_zero, v_slot, List.getElem?_cons_zero, List.getElem?_cons_succ, getS_some]
    rw [x_cons, x_ret]
    refine (congrArg (fun z => L1 endM (seqM _ _ [] (L1 retM z))) e1).trans ?_
    simp only [L1_pure, retM_pure, seq_ret, end_ret]
    rfl
  · rw [List.nil_append, flat_len _ ((lets t).length * (edges t).length) _ fun a _ => flat_len _ (edges t).length _ fun l _ => by simp, el]
    have : (lets t).length * ((lets t).length + 1) ≤ 10 * 11 := Nat.mul_le_mul l10 (by omega)
    have := Nat.mul_le_mul (show (lets t).length + 1 ≤ 11 by omega) this
    omega
  · rintro acc a m ha hN ⟨x3, x4, x6, rfl⟩
    rw [bind_name, pure_bnd]
    simp only [List.set_cons_succ, List.set_cons_zero, x_cons, x_for, v_ival, v_call, v_acons, v_anil, v_slot, List.getElem?_cons_zero, List.getElem?_cons_succ, getS_some, L1_pure, L2_pure, consM_pure, tab1, ok_letters_of t ht.l64, items_lst]
    have inner := for_acc (Φ := tab [d_look_table, d_letters_of, d_row_for]) (F := 1000) (tg := .name 4) (body := [.ext 2 (.comp (.name 6) (.ival (.slot 1)) none (.call 2 [.slot 0, .slot 3, .slot 4, .slot 6]) [6])])
      (u := fun c => D.str [c]) (J := fun (acc : List Nat) m => ∃ x4 x6, m = [some (tabD t), some (.lst (letD (edges t))), some (.lst (intsD acc)), some (.str [a]), x4, none, x6]) (f := fun l => (edges t).map fun b => rf t a l b) (N := 2000) (lets t) acc [some (tabD t), some (.lst (letD (edges t))), some (.lst (intsD acc)), some (.str [a]), x4, none, x6] ⟨x4, x6, rfl⟩ hN ?_
    · obtain ⟨m', e, y4, y6, rfl⟩ := inner
      have e' : forX (tab [d_look_table, d_letters_of, d_row_for]) 1000 (.name 4) [.ext 2 (.comp (.name 6) (.ival (.slot 1)) none (.call 2 [.slot 0, .slot 3, .slot 4, .slot 6]) [6])] [some (tabD t), some (.lst (letD (edges t))), some (.lst (intsD acc)), some (.str [a]), x4, none, x6] (letD (lets t)) = _ := e
      rw [e', seq_next]
      exact ⟨_, rfl, _, _, _, rfl⟩
    · rintro acc2 l m hl hN2 ⟨y4, y6, rfl⟩
      rw [bind_name, pure_bnd]
      have e1 : evE (tab [d_look_table, d_letters_of, d_row_for]) (.comp (.name 6) (.ival (.slot 1)) none (.call 2 [.slot 0, .slot 3, .slot 4, .slot 6]) [6]) [some (tabD t), some (.lst (letD (edges t))), some (.lst (intsD acc2)), some (.str [a]), some (.str [l]), none, y6] = pure (.lst ((edges t).map fun b => D.int (rf t a l b : Nat))) := by
        refine ev_map (u := fun c => D.str [c]) ?_ (by rw [el]; simp [sz]; omega) fun b _ => ?_
        · simp only [v_ival, v_slot, List.getElem?_cons_zero, List.getElem?_cons_succ, getS_some, L1_pure, items_lst]
          rfl
        · simp only [wipeD, List.set_cons_succ, List.set_cons_zero, v_call, v_acons, v_anil, v_slot, List.getElem?_cons_zero, List.getElem?_cons_succ, getS_some, L1_pure, L2_pure, consM_pure, tab2]
          exact ok_row_for (ht.has l hl) (by omega)
      have e2 : ((edges t).map fun b => D.int (rf t a l b : Nat)) = intsD ((edges t).map fun b => rf t a l b) := by simp [intsD]
      simp only [List.set_cons_succ, List.set_cons_zero, x_cons, x_ext, List.getElem?_cons_zero, List.getElem?_cons_succ, getS_some, e1, e2, L2_pure]
      rw [extS_lst _ _ _ (by rw [intsD_len, intsD_len]; rw [List.length_append] at hN2; simp [sz]; simp at hN2; omega), seq_next, ← intsD_app]
      exact ⟨_, rfl, _, _, rfl⟩
def longer (t : List Row) (ws : List (List Nat)) : List (List Nat) := ws.flatMap fun w => (lets t).map fun l => w ++ [l]
def wlT (t : List Row) : Nat → List (List Nat)
  | 0 => [[]]
  | n + 1 => longer t (wlT t n)
def wordsT (t : List Row) : Nat → List (List Nat)
  | 0 => [[]]
  | n + 1 => wordsT t n ++ wlT t (n + 1)
theorem mem_wlT {t : List Row} : ∀ {n : Nat} {w : List Nat}, w ∈ wlT t n ↔ w.length = n ∧ ∀ c ∈ w, c ∈ lets t
  | 0, w => by
    simp only [wlT, List.mem_singleton]
    constructor
    · rintro rfl; simp
    · rintro ⟨h, _⟩; exact List.length_eq_zero_iff.mp h
  | n + 1, w => by
    simp only [wlT, longer, List.mem_flatMap, List.mem_map]
    constructor
    · rintro ⟨v, hv, l, hl, rfl⟩
      obtain ⟨h1, h2⟩ := mem_wlT.mp hv
      refine ⟨by simp [h1], fun c hc => ?_⟩
      rcases List.mem_append.mp hc with hc | hc
      · exact h2 c hc
      · rw [List.mem_singleton] at hc; rw [hc]; exact hl
    · rintro ⟨h1, h2⟩
      have ne : w ≠ [] := fun z => by rw [z] at h1; simp at h1
      refine ⟨w.dropLast, mem_wlT.mpr ⟨by simp [h1], fun c hc => h2 c (List.dropLast_subset w hc)⟩, w.getLast ne, h2 _ (List.getLast_mem ne), List.dropLast_concat_getLast ne⟩
theorem mem_wordsT {t : List Row} : ∀ {n : Nat} {w : List Nat}, w ∈ wordsT t n ↔ w.length ≤ n ∧ ∀ c ∈ w, c ∈ lets t
  | 0, w => by
    have := mem_wlT (t := t) (n := 0) (w := w)
    simp only [wlT] at this
    simp only [wordsT]
    rw [this]
    constructor <;> rintro ⟨a, b⟩ <;> exact ⟨by omega, b⟩
  | n + 1, w => by
    simp only [wordsT, List.mem_append]
    rw [mem_wordsT, mem_wlT]
    constructor
    · rintro (⟨a, b⟩ | ⟨a, b⟩)
      · exact ⟨by omega, b⟩
      · exact ⟨by omega, b⟩
    · rintro ⟨a, b⟩
      by_cases z : w.length ≤ n
      · exact .inl ⟨z, b⟩
      · exact .inr ⟨by omega, b⟩
theorem longer_len (t : List Row) (ws : List (List Nat)) : (longer t ws).length = ws.length * (lets t).length := flat_len _ _ _ fun w _ => by simp
theorem wlT_len (t : List Row) : ∀ n, (wlT t n).length = (lets t).length ^ n
  | 0 => by simp [wlT]
  | n + 1 => by rw [wlT, longer_len, wlT_len t n, Nat.pow_succ]
def strsD (ws : List (List Nat)) : List D := ws.map D.str
theorem strsD_len (ws : List (List Nat)) : (strsD ws).length = ws.length := by simp [strsD]
theorem strsD_app (a b : List (List Nat)) : strsD (a ++ b) = strsD a ++ strsD b := by simp [strsD]
theorem pow_le10 {a n : Nat} (h : a ≤ 10) (hn : n ≤ 5) : a ^ n ≤ 100000 := Nat.le_trans (Nat.pow_le_pow_left h n) (Nat.le_trans (Nat.pow_le_pow_right (by decide) hn) (by decide))
theorem ev_more {Φ : Fns} {i j k : Nat} {m : Slots} {t : List Row} (ht : Tab t) {w : List Nat} (hk : Φ k [tabD t] = pure (.lst (letD (lets t)))) (h0 : m[0]? = some (some (tabD t))) (hj : m[j]? = some (some (.str w))) (hi : i < m.length) (hij : j ≠ i) (wl : w.length ≤ 1000) :
    evE Φ (.comp (.name i) (.ival (.call k [.slot 0])) none (.bin .add (.slot j) (.slot i)) [i]) m = pure (.lst (strsD ((lets t).map fun l => w ++ [l]))) := by
  obtain ⟨l1, l10⟩ := ht.lets1
  have := ev_map (Φ := Φ) (i := i) (it := .ival (.call k [.slot 0])) (elt := .bin .add (.slot j) (.slot i)) (own := [i]) (m := m) (xs := lets t) (u := fun c => D.str [c]) (v := fun c => D.str (w ++ [c])) ?_ (by simp [sz]; omega) fun c _ => ?_
  · rw [this]; unfold strsD; rw [List.map_map]; rfl
  · simp only [v_ival, v_call, v_acons, v_anil, v_slot, h0, getS_some, L1_pure, L2_pure, consM_pure, hk, items_lst]
    rfl
  · have g1 : ((wipeD m [i]).set i (some (D.str [c])))[j]? = some (some (.str w)) := by
      rw [List.getElem?_set_ne (Ne.symm hij)]
      simp only [wipeD]
      rw [List.getElem?_set_ne (Ne.symm hij)]
      exact hj
    have g2 : ((wipeD m [i]).set i (some (D.str [c])))[i]? = some (some (.str [c])) := List.getElem?_set_self (by simp [wipeD]; exact hi)
    simp only [v_bin, v_slot, g1, g2, getS_some, L2_pure]
    exact o_addS _ _ (by simp [sz]; omega)
theorem ok_law_longer {t : List Row} (ht : Tab t) {ws : List (List Nat)} (hl : ws.length ≤ 100000) (hw : ∀ w ∈ ws, w.length ≤ 1000) : d__law_longer [tabD t, .lst (strsD ws)] = pure (.lst (strsD (longer t ws))) := by
  obtain ⟨l1, l10⟩ := ht.lets1
  unfold d__law_longer c__law_longer
  rw [den2]
  have r3 : (some (tabD t) :: some (D.lst (strsD ws)) :: List.replicate (5 - 2) (none : Option D)) = [some (tabD t), some (.lst (strsD ws)), none, none, none] := rfl
  rw [r3]
  simp only [x_cons, x_setO, v_lst, v_anil, L1_pure, lstM_nil, setOM_lst, seq_next, List.set_cons_succ, List.set_cons_zero, x_for, v_ival, v_slot, List.getElem?_cons_zero, List.getElem?_cons_succ, getS_some, items_lst]
  have key := for_acc (Φ := tab [d__law_letters]) (F := 1000) (tg := .name 3) (body := [.ext 2 (.comp (.name 4) (.ival (.call 0 [.slot 0])) none (.bin .add (.slot 3) (.slot 4)) [4])]) (u := D.str) (J := fun (acc : List (List Nat)) m => ∃ x3 x4, m = [some (tabD t), some (.lst (strsD ws)), some (.lst (strsD acc)), x3, x4]) (f := fun w => (lets t).map fun l => w ++ [l]) (N := 1000000) ws [] [some (tabD t), some (.lst (strsD ws)), some (.lst []), none, none] ⟨_, _, rfl⟩ ?_ ?_
  · refine seq_for (fun q => L1 endM q = _) key ?_
    rintro m' ⟨x3, x4, rfl⟩
    simp only [x_cons, x_ret, v_slot, List.getElem?_cons_zero, List.getElem?_cons_succ, getS_some, L1_pure, retM_pure, seq_ret, end_ret, List.nil_append]
    rfl
  · have := longer_len t ws
    unfold longer at this
    rw [List.nil_append, this]
    exact Nat.le_trans (Nat.mul_le_mul hl l10) (by decide)
  · rintro acc w m hm hN ⟨x3, x4, rfl⟩
    rw [bind_name, pure_bnd]
    have e1 := ev_more (Φ := tab [d__law_letters]) (i := 4) (j := 3) (k := 0) (m := [some (tabD t), some (.lst (strsD ws)), some (.lst (strsD acc)), some (.str w), x4]) ht (ok_law_letters t ht.l64) rfl rfl (by simp) (by decide) (hw w hm)
    simp only [List.set_cons_succ, List.set_cons_zero, x_cons, x_ext, List.getElem?_cons_zero, List.getElem?_cons_succ, getS_some, e1, L2_pure]
    rw [extS_lst _ _ _ (by rw [strsD_len, strsD_len]; rw [List.length_append] at hN; simp [sz]; simp at hN; omega), seq_next, ← strsD_app]
    exact ⟨_, rfl, _, _, rfl⟩
theorem wordsT_len (t : List Row) (h : (lets t).length ≤ 10) : ∀ n, n ≤ 5 → (wordsT t n).length ≤ (n + 1) * 100000
  | 0, _ => by simp [wordsT]
  | n + 1, hn => by
    have := wordsT_len t h n (by omega)
    have := pow_le10 h hn
    rw [wordsT, List.length_append, wlT_len]
    omega
theorem ok_law_words {t : List Row} (ht : Tab t) {most : Nat} (hm : most ≤ 5) : d__law_words [tabD t, .int (most : Nat)] = pure (.lst (strsD (wordsT t most))) := by
  obtain ⟨l1, l10⟩ := ht.lets1
  unfold d__law_words c__law_words
  rw [den2]
  have r3 : (some (tabD t) :: some (D.int (most : Nat)) :: List.replicate (5 - 2) (none : Option D)) = [some (tabD t), some (.int (most : Nat)), none, none, none] := rfl
  rw [r3]
  have ep : parM [some (tabD t), some (.int (most : Nat)), none, none, none] [3, 4] [.lst [.str []], .lst [.str []]] = pure (.next [some (tabD t), some (.int (most : Nat)), none, some (.lst (strsD (wordsT t 0))), some (.lst (strsD (wlT t 0)))]) := rfl
  simp only [x_cons, x_par, v_acons, v_anil, v_lst, v_cst, L1_pure, L2_pure, consM_pure, lstM1, ep, seq_next, x_for, v_irng, v_slot, List.getElem?_cons_zero, List.getElem?_cons_succ, getS_some, rngM1 most (by omega)]
  refine seq_for (fun q => L1 endM q = _) (for_inv (I := fun k m => ∃ x2, m = [some (tabD t), some (.int (most : Nat)), x2, some (.lst (strsD (wordsT t k))), some (.lst (strsD (wlT t k)))]) ⟨none, rfl⟩ ?_) ?_
  · rintro i x m hx ⟨x2, rfl⟩
    have il : i < most := by
      have := (List.getElem?_eq_some_iff.mp hx).1
      simpa using this
    rw [bind_name, pure_bnd]
    have wl : (wlT t i).length ≤ 100000 := by rw [wlT_len]; exact pow_le10 l10 (by omega)
    have e1 := ok_law_longer ht (ws := wlT t i) wl fun w hw => by have := (mem_wlT.mp hw).1; omega
    have e2 : opM .add (.lst (strsD (wordsT t i))) (.lst (strsD (wlT t (i + 1)))) = pure (.lst (strsD (wordsT t (i + 1)))) := by
      rw [o_addL _ _ ?_]
      · rw [← strsD_app]; rfl
      · have a := wordsT_len t l10 i (by omega)
        have b : (wlT t (i + 1)).length ≤ 100000 := by rw [wlT_len]; exact pow_le10 l10 (by omega)
        rw [strsD_len, strsD_len]
        have c := Nat.mul_le_mul_right 100000 (show i + 1 ≤ 5 by omega)
        simp [sz]; omega
    have e1' : d__law_longer [tabD t, .lst (strsD (wlT t i))] = pure (.lst (strsD (wlT t (i + 1)))) := e1
    simp only [List.set_cons_succ, List.set_cons_zero, x_cons, x_set, v_call, v_acons, v_anil, v_slot, List.getElem?_cons_zero, List.getElem?_cons_succ, getS_some, L1_pure, L2_pure, consM_pure, tab0, e1', setM_pure, seq_next, v_bin, e2, x_nil]
    exact ⟨_, rfl, _, rfl⟩
  · rintro m ⟨x2, rfl⟩
    simp only [List.length_map, List.length_range, x_cons, x_ret, v_slot, List.getElem?_cons_zero, List.getElem?_cons_succ, getS_some, L1_pure, retM_pure, seq_ret, end_ret]
end WB.C
namespace WB.C
open WB
def moveM (m : Slots) (i j : Nat) (d : D) : M Fl := pure (.next ((m.set j none).set i (some d)))
@[simp] theorem x_move {Φ : Fns} {F : Nat} {m : Slots} (i j : Nat) : exS Φ F (.move i j) m = L1 (moveM m i j) (getS m[j]?) := by
  show (slotM m j >>= _) = (getS m[j]? >>= _)
  have : slotM m j = getS m[j]? := by unfold slotM; rcases m[j]? with _ | _ | d <;> rfl
  rw [this]; rfl
@[simp] theorem o_isB (a b : Bool) : opM .is_ (.bl a) (.bl b) = pure (.bl (a == b)) := rfl
@[simp] theorem o_isnotB (a b : Bool) : opM .isnot (.bl a) (.bl b) = pure (.bl (!(a == b))) := rfl
def flatE : D → Prop
  | .non => True
  | .bl _ => True
  | .int _ => True
  | .str _ => True
  | _ => False
theorem eq_flat {d : D} (h : flatE d) (n : Nat) : eqD n d d = some true := by
  cases d with
  | non => cases n <;> rfl
  | bl b => cases n <;> (show some (b == b) = _; simp)
  | int i => cases n <;> (show some (i == i) = _; simp)
  | str s => cases n <;> (show some (s == s) = _; simp)
  | _ => exact h.elim
theorem eq_flats (n : Nat) {ds : List D} (h : ∀ d ∈ ds, flatE d) : eqD (n + 1) (.lst ds) (.lst ds) = some true := by
  show eqL n ds ds = _
  exact eqL_refl n ds fun d hd => eq_flat (h d hd) n
theorem eq_ints (l : List Nat) (n : Nat) : eqD (n + 1) (.lst (intsD l)) (.lst (intsD l)) = some true := eq_flats n fun d hd => by
  obtain ⟨x, _, rfl⟩ := List.mem_map.mp hd
  trivial
theorem spl_len1 {c : Nat} (s : List Nat) : ∀ acc, (splT [c] 0 acc s).length ≤ s.length + 1 ∧ ∀ l ∈ splT [c] 0 acc s, l.length ≤ acc.length + s.length := by
  induction s with
  | nil => intro acc; simp [splT]
  | cons a r ih =>
    intro acc
    show (List.length (if preT [c] (a :: r) then acc :: splT [c] ([c].length - 1) [] r else splT [c] 0 (acc ++ [a]) r) ≤ _) ∧ ∀ l ∈ (if preT [c] (a :: r) then acc :: splT [c] ([c].length - 1) [] r else splT [c] 0 (acc ++ [a]) r), _
    split
    · have := ih []
      refine ⟨by simp; exact this.1, fun l hl => ?_⟩
      rcases List.mem_cons.mp hl with rfl | hl
      · simp
      · have := this.2 l hl
        simp at this ⊢; omega
    · have := ih (acc ++ [a])
      refine ⟨by simp; have := this.1; omega, fun l hl => ?_⟩
      have := this.2 l hl
      simp at this ⊢; omega
def wordsOf (s : List Nat) : List (List Nat) := splT [32] 0 [] s
def lineB (t : List Row) : D → Bool
  | .str s => (wordsOf s).all fun w => wordB t (.str w)
  | _ => false
theorem m_split32 (s : List Nat) (h : s.length ≤ 1000000) : mthM .split (.str s) [.str [32]] = pure (.lst (strsD (wordsOf s))) := by
  show splitM (.str s) (.str [32]) = _
  unfold splitM
  dsimp only
  rw [if_pos ⟨by simp [sz]; omega, by decide⟩]
  rfl
theorem ok_are_words {t : List Row} (ht : Tab t) {d : D} (h : PlD d) : d_are_words [tabD t, d] = pure (.bl (lineB t d)) := by
  unfold d_are_words c_are_words
  rw [den2]
  cases h with
  | str s hl =>
    have sl := spl_len1 (c := 32) s []
    have e1 : evE (tab [d_look_table, d_is_word_of]) (.comp (.name 2) (.ival (.mth .split true (.slot 1) [.cst (.str [32])])) none (.call 1 [.slot 0, .slot 2]) [2]) [some (tabD t), some (.str s), none] = pure (.lst ((wordsOf s).map fun w => D.bl (wordB t (.str w)))) := by
      refine ev_map (u := D.str) ?_ (by have := sl.1; unfold wordsOf; simp [sz]; omega) fun w hw => ?_
      · simp only [v_ival, v_mth, v_acons, v_anil, v_slot, v_cst, List.getElem?_cons_zero, List.getElem?_cons_succ, getS_some, L1_pure, L2_pure, ifTy_s, consM_pure, m_split32 s hl, items_lst]
        rfl
      · have wl := sl.2 w hw
        simp only [wipeD, List.set_cons_succ, List.set_cons_zero, v_call, v_acons, v_anil, v_slot, List.getElem?_cons_zero, List.getElem?_cons_succ, getS_some, L1_pure, L2_pure, consM_pure, tab1]
        exact ok_is_word_of ht.l64 (.str w (by simp at wl; omega))
    have r3 : (some (tabD t) :: some (D.str s) :: List.replicate (3 - 2) (none : Option D)) = [some (tabD t), some (.str s), none] := rfl
    have i5 : isM .str (.str s) = pure (.bl true) := rfl
    rw [r3]
    simp only [x_cons, x_expr, v_call, v_acons, v_anil, v_slot, List.getElem?_cons_zero, List.getElem?_cons_succ, getS_some, L1_pure, L2_pure, consM_pure, tab0, ht.look, dropM_pure, seq_next, x_ret, v_and, v_isi, v_blt, i5, andM_t, e1, b_blt1, b_allf, retM_pure, seq_ret, end_ret]
    rfl
  | tup ds _ _ => simp [ht.look]; rfl
  | lst ds _ _ => simp [ht.look]; rfl
  | int i => simp [ht.look]; rfl
  | bl b => simp [ht.look]; rfl
  | non => simp [ht.look]; rfl
theorem m_join1 (l : List (List Nat)) (h : (l.map List.length).sum + l.length ≤ sz) : mthM .join (.str [32]) [.lst (strsD l)] = pure (.str (joinT [32] l)) := by
  show joinM (.str [32]) (.lst (l.map D.str)) = _
  unfold joinM
  dsimp only
  rw [strs_map]
  simp [h]
theorem ok_line_written {t : List Row} (ht : Tab t) {s : List Nat} (hl : s.length ≤ 1000) (h : lineB t (.str s) = true) : d_line_written [tabD t, .str s] = pure (.str (joinT [32] ((wordsOf s).map (wr t)))) := by
  have sl := spl_len1 (c := 32) s []
  have wk : ∀ w ∈ wordsOf s, w.length ≤ 24 ∧ ∀ c ∈ w, c ∈ lets t := fun w hw => word_of (List.all_eq_true.mp h w hw)
  have e1 : evE (tab [d_look_table, d_are_words, d_written_of]) (.comp (.name 3) (.ival (.slot 2)) none (.call 2 [.slot 0, .slot 3]) [3]) [some (tabD t), some (.str s), some (.lst (strsD (wordsOf s))), none] = pure (.lst ((wordsOf s).map fun w => D.str (wr t w))) := by
    refine ev_map (u := D.str) ?_ (by have := sl.1; unfold wordsOf; simp [sz]; omega) fun w hw => ?_
    · simp only [v_ival, v_slot, List.getElem?_cons_zero, List.getElem?_cons_succ, getS_some, L1_pure, items_lst]
      rfl
    · simp only [wipeD, List.set_cons_succ, List.set_cons_zero, v_call, v_acons, v_anil, v_slot, List.getElem?_cons_zero, List.getElem?_cons_succ, getS_some, L1_pure, L2_pure, consM_pure, tab2]
      exact ok_written_of ht (wk w hw).2 (by have := (wk w hw).1; omega)
  have e2 : ((wordsOf s).map fun w => D.str (wr t w)) = strsD ((wordsOf s).map (wr t)) := by unfold strsD; rw [List.map_map]; rfl
  unfold d_line_written c_line_written
  rw [den2]
  have r3 : (some (tabD t) :: some (D.str s) :: List.replicate (4 - 2) (none : Option D)) = [some (tabD t), some (.str s), none, none] := rfl
  rw [r3]
  simp only [x_cons, x_expr, x_if, x_nil, v_not, v_call, v_acons, v_anil, v_slot, List.getElem?_cons_zero, List.getElem?_cons_succ, getS_some, L1_pure, L2_pure, consM_pure, tab0, tab1, ht.look, dropM_pure, seq_next, ok_are_words ht (PlD.str s (by omega)), h, notM_b, Bool.not_true, iteM_f, x_set, v_mth, v_cst, ifTy_s, m_split32 s (by omega), setM_pure, List.set_cons_succ, List.set_cons_zero, x_ret, e1, e2]
  rw [m_join1 _ ?_]
  · rfl
  · have : (((wordsOf s).map (wr t)).map List.length).sum ≤ 72 * ((wordsOf s).map (wr t)).length := sum_le fun x hx => by
      obtain ⟨w, hw, rfl⟩ := List.mem_map.mp hx
      unfold wr
      rw [List.length_flatten]
      have q : (((tri w).map fun x => tx t x.1 x.2.1 x.2.2).map List.length).sum ≤ 3 * ((tri w).map fun x => tx t x.1 x.2.1 x.2.2).length := sum_le fun y hy => by
        obtain ⟨z, hz, rfl⟩ := List.mem_map.mp hy
        exact (tx_len ht ((wk w hw).2 _ (tri_mid hz))).2
      rw [List.length_map, tri_len] at q
      have := (wk w hw).1
      omega
    rw [List.length_map] at this ⊢
    have a := sl.1
    have b : (wordsOf s).length ≤ s.length + 1 := a
    simp [sz] at *
    omega
section
variable {d e : D} (h : PlD d) (t : tabB d = false)
include h t
end
theorem mem_seen {t : List Row} {n : Nat} : n ∈ seen t ↔ ∃ w ∈ wordsT t 3, n ∈ ru t w := by
  unfold seen ru
  simp only [List.mem_flatMap, List.mem_map]
  constructor
  · rintro ⟨a, ha, l, hl, b, hb, rfl⟩
    have go : ∀ (w : List Nat) (k : Nat), w.length ≤ 3 → (∀ c ∈ w, c ∈ lets t) → k < w.length → trk w k = (a, l, b) → ∃ w ∈ wordsT t 3, ∃ x ∈ tri w, rf t x.1 x.2.1 x.2.2 = rf t a l b := fun w k h1 h2 h3 h4 => by
      refine ⟨w, mem_wordsT.mpr ⟨h1, h2⟩, (a, l, b), ?_, rfl⟩
      rw [← h4]
      exact List.mem_map.mpr ⟨k, List.mem_range.mpr h3, rfl⟩
    rcases List.mem_append.mp ha with ha | ha <;> rcases List.mem_append.mp hb with hb | hb
    · exact go [a, l, b] 1 (by simp) (by simp [ha, hl, hb]) (by simp) rfl
    · have eb : b = 35 := by simpa using hb
      subst eb
      exact go [a, l] 1 (by simp) (by simp [ha, hl]) (by simp) rfl
    · have ea : a = 35 := by simpa using ha
      subst ea
      exact go [l, b] 0 (by simp) (by simp [hl, hb]) (by simp) rfl
    · have ea : a = 35 := by simpa using ha
      have eb : b = 35 := by simpa using hb
      subst ea eb
      exact go [l] 0 (by simp) (by simp [hl]) (by simp) rfl
  · rintro ⟨w, hw, x, hx, rfl⟩
    obtain ⟨k, hk, rfl⟩ := List.mem_map.mp hx
    have kl := List.mem_range.mp hk
    have wl := (mem_wordsT.mp hw).2
    refine ⟨(trk w k).1, ?_, (trk w k).2.1, wl _ (trk_mid kl), (trk w k).2.2, ?_, rfl⟩
    · unfold trk edges
      by_cases c : k = 0
      · simp [c]
      · have lt : k - 1 < w.length := by omega
        simp only [c, if_false, List.mem_append]
        left
        rw [List.getD_eq_getElem?_getD, List.getElem?_eq_getElem lt]
        exact wl _ (List.getElem_mem lt)
    · unfold trk edges
      by_cases c : k + 1 < w.length
      · simp only [c, if_true, List.mem_append]
        left
        rw [List.getD_eq_getElem?_getD, List.getElem?_eq_getElem c]
        exact wl _ (List.getElem_mem c)
      · simp [c]
end WB.C
namespace WB.C
open WB
@[simp] theorem v_told {Φ : Fns} {m : Slots} (ws : List (Option (List Nat))) (c : E) : evE Φ (.told ws c) m = tellM ws (evE Φ c m) := rfl
@[simp] theorem tell_ok (ws : List (Option (List Nat))) (d : D) : tellM ws (pure d) = pure d := rfl
end WB.C
namespace WB.C
open WB
theorem sorted_eq : ∀ {a b : List Nat}, a.Pairwise (· < ·) → b.Pairwise (· < ·) → (∀ x, x ∈ a ↔ x ∈ b) → a = b
  | [], [], _, _, _ => rfl
  | [], y :: b, _, _, h => by have := (h y).mpr (List.mem_cons_self ..); simp at this
  | x :: a, [], _, _, h => by have := (h x).mp (List.mem_cons_self ..); simp at this
  | x :: a, y :: b, ha, hb, h => by
    rw [List.pairwise_cons] at ha hb
    have e : x = y := by
      have h1 := (h x).mp (List.mem_cons_self ..)
      have h2 := (h y).mpr (List.mem_cons_self ..)
      rcases List.mem_cons.mp h1 with h1 | h1
      · exact h1
      · rcases List.mem_cons.mp h2 with h2 | h2
        · exact h2.symm
        · have := hb.1 x h1
          have := ha.1 y h2
          omega
    subst e
    congr 1
    refine sorted_eq ha.2 hb.2 fun z => ?_
    constructor
    · intro hz
      have ne : z ≠ x := fun q => by have := ha.1 z hz; omega
      exact (List.mem_cons.mp ((h z).mp (List.mem_cons_of_mem _ hz))).resolve_left ne
    · intro hz
      have ne : z ≠ x := fun q => by have := hb.1 z hz; omega
      exact (List.mem_cons.mp ((h z).mpr (List.mem_cons_of_mem _ hz))).resolve_left ne
def insM (a : Nat) : List Nat → List Nat
  | [] => [a]
  | b :: r => if b < a then b :: insM a r else a :: b :: r
def sortMN : List Nat → List Nat
  | [] => []
  | a :: r => insM a (sortMN r)
theorem mem_insM {c a : Nat} : ∀ l : List Nat, c ∈ insM a l ↔ c = a ∨ c ∈ l
  | [] => by simp [insM]
  | b :: r => by
    unfold insM
    by_cases y : b < a
    · rw [if_pos y, List.mem_cons, mem_insM r, List.mem_cons]
      constructor <;> (rintro (h | h | h) <;> simp [h])
    · rw [if_neg y]; simp
theorem mem_sortMN {c : Nat} : ∀ l : List Nat, c ∈ sortMN l ↔ c ∈ l
  | [] => by simp [sortMN]
  | a :: r => by
    show c ∈ insM a (sortMN r) ↔ _
    rw [mem_insM, mem_sortMN r, List.mem_cons]
theorem insM_sorted (a : Nat) : ∀ l : List Nat, l.Pairwise (· < ·) → a ∉ l → (insM a l).Pairwise (· < ·)
  | [], _, _ => by simp [insM]
  | b :: r, h, hn => by
    rw [List.pairwise_cons] at h
    have ne : a ≠ b := fun z => hn (by rw [z]; exact List.mem_cons_self ..)
    unfold insM
    by_cases y : b < a
    · rw [if_pos y, List.pairwise_cons]
      refine ⟨fun c hc => ?_, insM_sorted a r h.2 fun z => hn (List.mem_cons_of_mem _ z)⟩
      rcases (mem_insM r).mp hc with rfl | hc
      · exact y
      · exact h.1 c hc
    · rw [if_neg y, List.pairwise_cons, List.pairwise_cons]
      refine ⟨fun c hc => ?_, h⟩
      rcases List.mem_cons.mp hc with rfl | hc
      · omega
      · have := h.1 c hc; omega
theorem sortMN_sorted : ∀ l : List Nat, l.Nodup → (sortMN l).Pairwise (· < ·)
  | [], _ => List.Pairwise.nil
  | a :: r, h => by
    rw [List.nodup_cons] at h
    exact insM_sorted a _ (sortMN_sorted r h.2) fun z => h.1 ((mem_sortMN r).mp z)
theorem lets_nodup (t : List Row) : (lets t).Nodup := (sortN_sorted _).imp fun h => Nat.ne_of_lt h
end WB.C
namespace WB.C
open WB
def free (l : Nat) (r : Row) : Bool := !(r.l == l) && (!(r.a == some l) && !(r.b == some l))
def drop (l : Nat) (t : List Row) : List Row := t.filter (free l)
end WB.C
namespace WB.C
open WB
mutual
theorem keyEq_eq : ∀ {a b : D}, keyEq a b = true → a = b
  | .non, .non, _ => rfl
  | .int i, .int j, h => by simp [keyEq] at h; rw [h]
  | .str s, .str t, h => by simp [keyEq] at h; rw [h]
  | .tup a, .tup b, h => by simp [keyEq] at h; rw [keyEqL_eq h]
theorem keyEqL_eq : ∀ {a b : List D}, keyEqL a b = true → a = b
  | [], [], _ => rfl
  | x :: xs, y :: ys, h => by
    simp [keyEqL] at h
    rw [keyEq_eq h.1, keyEqL_eq h.2]
end
theorem getD_app_none {k : D} : ∀ {l r : List (D × D)}, (l.any fun p => keyEq p.1 k) = false → getD k (l ++ r) = getD k r
  | [], _, _ => rfl
  | p :: l, r, h => by
    simp only [List.any_cons, Bool.or_eq_false_iff] at h
    show (if keyEq p.1 k then some p.2 else getD k (l ++ r)) = _
    rw [h.1]
    simp only [Bool.false_eq_true, if_false]
    exact getD_app_none h.2
theorem getD_app_ne {k k' v : D} (h : keyEq k' k = false) : ∀ l : List (D × D), getD k (l ++ [(k', v)]) = getD k l
  | [] => by show (if keyEq k' k then some v else none) = none; rw [h]; rfl
  | p :: l => by
    show (if keyEq p.1 k then some p.2 else getD k (l ++ [(k', v)])) = (if keyEq p.1 k then some p.2 else getD k l)
    rw [getD_app_ne h l]
theorem getD_put_self {k v : D} (h : keyEq k k = true) (l : List (D × D)) : getD k (putD k v l) = some v := by
  unfold putD
  cases c : l.any fun p => keyEq p.1 k with
  | true =>
    simp only [if_true]
    clear h
    induction l with
    | nil => simp at c
    | cons p l ih =>
      cases q : keyEq p.1 k with
      | true => simp [getD, q]
      | false =>
        simp only [List.any_cons, q, Bool.false_or] at c
        simp only [List.map_cons, q, Bool.false_eq_true, if_false]
        show (if keyEq p.1 k then some p.2 else _) = _
        rw [q]
        exact ih c
  | false =>
    simp only [Bool.false_eq_true, if_false]
    rw [getD_app_none c]
    show (if keyEq k k then some v else none) = _
    rw [h]; rfl
theorem getD_put_ne {k k' v : D} (h : keyEq k' k = false) (l : List (D × D)) : getD k (putD k' v l) = getD k l := by
  unfold putD
  cases c : l.any fun p => keyEq p.1 k' with
  | true =>
    simp only [if_true]
    clear c
    induction l with
    | nil => rfl
    | cons p l ih =>
      cases q : keyEq p.1 k' with
      | true =>
        have e := keyEq_eq q
        have n : keyEq p.1 k = false := by rw [e]; exact h
        simp only [List.map_cons, q, if_true]
        show (if keyEq p.1 k then some v else _) = (if keyEq p.1 k then some p.2 else _)
        rw [n]
        exact ih
      | false =>
        simp only [List.map_cons, q, Bool.false_eq_true, if_false]
        show (if keyEq p.1 k then some p.2 else _) = (if keyEq p.1 k then some p.2 else _)
        rw [ih]
  | false =>
    simp only [Bool.false_eq_true, if_false]
    exact getD_app_ne h l
section
variable {Φ : Fns} {F : Nat} {m : Slots}
end
def bestI (g : Bool) : List Int → Int
  | [] => 0
  | a :: l => if g then maxI a l else minI a l
theorem ints_map (l : List Int) : intsOf (l.map D.int) = some l := by
  induction l with
  | nil => rfl
  | cons a l ih => show (intsOf (l.map D.int)).map (a :: ·) = _; rw [ih]; rfl
def stp (t : List Row) (a l b : Nat) : Int := (tx t a l b).length
def vl (t : List Row) : Nat → List Nat → Int
  | _, [] => 0
  | a, [l] => stp t a l 35
  | a, l :: b :: r => stp t a l b + vl t l (b :: r)
theorem trk_cons (x : Nat) (w : List Nat) (k : Nat) : trk (x :: w) (k + 1) = (if k = 0 then x else w.getD (k - 1) 0, w.getD k 0, if k + 1 < w.length then w.getD (k + 1) 0 else 35) := by
  unfold trk
  have e : (x :: w).getD (k + 1) 0 = w.getD k 0 := by simp
  have e2 : (x :: w).getD (k + 1 + 1) 0 = w.getD (k + 1) 0 := by simp
  have e3 : (x :: w).getD (k + 1 - 1) 0 = if k = 0 then x else w.getD (k - 1) 0 := by
    cases k <;> simp
  rw [e, e2, e3, if_neg (by omega)]
  simp
def trA (a : Nat) (w : List Nat) : List (Nat × Nat × Nat) := (List.range w.length).map fun k => (if k = 0 then a else w.getD (k - 1) 0, w.getD k 0, if k + 1 < w.length then w.getD (k + 1) 0 else 35)
theorem trA_cons (a x : Nat) (w : List Nat) : trA a (x :: w) = (a, x, if 0 < w.length then w.getD 0 0 else 35) :: trA x w := by
  unfold trA
  rw [List.length_cons, List.range_succ_eq_map, List.map_cons, List.map_map]
  congr 1
  · simp
  · refine List.map_congr_left fun k _ => ?_
    have := trk_cons x w k
    unfold trk at this
    rw [if_neg (by omega)] at this
    simp only [Function.comp_apply, Nat.succ_eq_add_one]
    rw [if_neg (by omega)]
    exact this
def bst (t : List Row) (g : Bool) : Nat → Nat → Nat → Int
  | 0, _, _ => 0
  | 1, a, l => stp t a l 35
  | n + 2, a, l => bestI g ((lets t).map fun b => stp t a l b + bst t g (n + 1) l b)
def fstN (p : Nat → Bool) (l : List Nat) : Nat := (l.find? p).getD 0
def gw (t : List Row) (g : Bool) : Nat → Nat → Nat → List Nat
  | 0, _, _ => []
  | 1, _, l => [l]
  | n + 2, a, l => l :: gw t g (n + 1) l (fstN (fun b => stp t a l b + bst t g (n + 1) l b == bst t g (n + 2) a l) (lets t))
theorem ltT_cons_eq (a : Nat) (r s : List Nat) : ltT (a :: r) (a :: s) = ltT r s := by
  show (if a = a then ltT r s else decide (a < a)) = _
  rw [if_pos rfl]
end WB.C
namespace WB.C
open WB
def seqR {α β : Type} (r : Res α) (f : α → M β) : Res β := match r with
  | .ok a o => f a o
  | .exn k o => .exn k o
  | .stuck => .stuck
theorem seqR_ok {α β : Type} (a : α) (o : Objs) (f : α → M β) : seqR (.ok a o) f = f a o := rfl
theorem seqR_exn {α β : Type} (k : Nat) (o : Objs) (f : α → M β) : seqR (.exn k o) f = .exn k o := rfl
theorem bnd_ap {α β : Type} (x : M α) (f : α → M β) (o : Objs) : (x >>= f) o = seqR (x o) f := by
  show M.bnd x f o = _
  unfold M.bnd seqR
  cases x o <;> rfl
theorem pure_ap {α : Type} (a : α) (o : Objs) : (pure a : M α) o = .ok a o := rfl
theorem throw_ap {α : Type} (k : Nat) (o : Objs) : (M.throw k : M α) o = .exn k o := rfl
theorem L1_ap {α β : Type} (f : α → M β) (x : M α) (o : Objs) : L1 f x o = seqR (x o) f := bnd_ap x f o
theorem L2_ap {α β γ : Type} (f : α → β → M γ) (x : M α) (y : M β) (o : Objs) : L2 f x y o = seqR (x o) fun a => L1 (f a) y := bnd_ap x _ o
theorem L3_ap {α β γ δ : Type} (f : α → β → γ → M δ) (x : M α) (y : M β) (z : M γ) (o : Objs) : L3 f x y z o = seqR (x o) fun a => L2 (f a) y z := bnd_ap x _ o
def folM (Φ : Fns) (F : Nat) (r : List S) (f : Fl) : M Fl := match f with
  | .next m' => exL Φ F r m'
  | f => pure f
theorem folM_next (Φ : Fns) (F : Nat) (r : List S) (m : Slots) : folM Φ F r (.next m) = exL Φ F r m := rfl
theorem folM_ret (Φ : Fns) (F : Nat) (r : List S) (d : D) : folM Φ F r (.ret d) = pure (.ret d) := rfl
theorem seqM_ap (Φ : Fns) (F : Nat) (r : List S) (x : M Fl) (o : Objs) : seqM Φ F r x o = seqR (x o) (folM Φ F r) := by
  have : seqM Φ F r x = (x >>= folM Φ F r) := by
    show (x >>= fun f => _) = _
    congr 1
  rw [this, bnd_ap]
def iteB {α : Type} (d : D) (y z : M α) : M α := match d with
  | .bl true => y
  | .bl false => z
  | _ => M.fail
theorem iteB_t {α : Type} (y z : M α) : iteB (.bl true) y z = y := rfl
theorem iteB_f {α : Type} (y z : M α) : iteB (.bl false) y z = z := rfl
theorem iteM_ap {α : Type} (x : M D) (y z : M α) (o : Objs) : iteM x y z o = seqR (x o) fun d => iteB d y z := by
  show (x >>= fun d => d.asB >>= fun t => if t then y else z) o = _
  rw [bnd_ap]
  congr 1
  funext d
  cases d with
  | bl b => cases b <;> rfl
  | _ => rfl
theorem orM_ap (x y : M D) (o : Objs) : orM x y o = seqR (x o) fun d => iteB d (pure (.bl true)) y := by
  unfold orM
  first
    | exact iteM_ap x (pure (.bl true)) y o
    | (show (x >>= fun d => _) o = _
       rw [bnd_ap]
       congr 1
       funext d
       cases d with
       | bl b => cases b <;> rfl
       | _ => rfl)
theorem andM_ap (x y : M D) (o : Objs) : andM x y o = seqR (x o) fun d => iteB d y (pure (.bl false)) := by
  unfold andM
  first
    | exact iteM_ap x y (pure (.bl false)) o
    | (show (x >>= fun d => _) o = _
       rw [bnd_ap]
       congr 1
       funext d
       cases d with
       | bl b => cases b <;> rfl
       | _ => rfl)
section
variable {Φ : Fns} {F : Nat} {m : Slots}
theorem v_fld (c k : Nat) (a : E) : evE Φ (.fld c k a) m = L1 (fldM c k) (evE Φ a m) := rfl
def metM (Φ : Fns) (k : Nat) (es : List E) (m : Slots) (x : D) : M D := L1 (fun xs => Φ k (x :: xs)) (evA Φ es m)
def metO (Φ : Fns) (c mn k : Nat) (es : List E) (m : Slots) (x : D) : M D := L1 (fun _ => metM Φ k es m x) (isO c mn x)
theorem v_meth (c mn k : Nat) (a : E) (es : List E) : evE Φ (.meth c mn k a es) m = L1 (metO Φ c mn k es m) (evE Φ a m) := rfl
def newR (x : D) (r : D) : M D := match r with
  | .non => pure x
  | _ => M.fail
theorem newR_non (x : D) : newR x .non = pure x := rfl
def newA (Φ : Fns) (c k : Nat) (xs : List D) : M D := L1 (fun x => L1 (newR x) (Φ k (x :: xs))) (newM c)
theorem v_new (c k : Nat) (es : List E) : evE Φ (.new c k es) m = L1 (newA Φ c k) (evA Φ es m) := by
  show (evA Φ es m >>= fun xs => newM c >>= fun x => Φ k (x :: xs) >>= fun r => (match r with | .non => pure x | _ => M.fail)) = (evA Φ es m >>= newA Φ c k)
  have : (fun xs => newM c >>= fun x => Φ k (x :: xs) >>= fun r => (match r with | .non => pure x | _ => M.fail)) = newA Φ c k := by
    funext xs
    show _ = (newM c >>= fun x => Φ k (x :: xs) >>= newR x)
    congr 1
  rw [this]
def frzM (x : D) : M D := if isDs x then pure x else M.fail
theorem v_frz (e : E) : evE Φ (.frz e) m = L1 frzM (evE Φ e m) := rfl
theorem frzM_dic (t : Bool) (ks : List (D × D)) : frzM (.dic t ks) = pure (.dic t ks) := rfl
theorem v_box (e : E) : evE Φ (.box e) m = L1 boxM (evE Φ e m) := rfl
theorem boxM_lst (l : List D) (o : Objs) : boxM (.lst l) o = .ok (.obj o.length) (o ++ [.box (.lst l)]) := rfl
theorem v_bidx (a i : E) : evE Φ (.bidx a i) m = L2 (fun x y => L1 (fun x => idxM x y) (derM x)) (evE Φ a m) (evE Φ i m) := rfl
def bbM (o2 : B2) (x y : D) : M D := L2 (opM o2) (derM x) (derM y)
theorem v_bbin (o2 : B2) (a b : E) : evE Φ (.bbin o2 a b) m = L2 (bbM o2) (evE Φ a m) (evE Φ b m) := rfl
theorem v_bblt (f : BF) (es : List E) : evE Φ (.bblt f es) m = L1 (fun xs => L1 (bltM f) (dersM xs)) (evA Φ es m) := rfl
def bapM (x y : D) : M D := bupM (fun d => appM d y >>= fun z => pure (.non, z)) x
def bapC (Φ : Fns) (e : E) (m : Slots) (x : D) : M D := L1 (fun _ => L1 (bapM x) (evE Φ e m)) (chkM false x)
theorem v_bapp (a e : E) : evE Φ (.bapp a e) m = L1 (bapC Φ e m) (evE Φ a m) := rfl
theorem v_bpop (b : Bool) (a : E) : evE Φ (.bpop b a) m = L1 (bupM fun d => popM d b) (evE Φ a m) := rfl
def fseM (m : Slots) (c k : Nat) (d x : D) : M Fl := L1 (dropM m) (fsetM c k x d)
theorem x_fset (c k : Nat) (a e : E) : exS Φ F (.fset c k a e) m = L2 (fseM m c k) (evE Φ e m) (evE Φ a m) := rfl
end
theorem fld_at {o : Objs} {n c k : Nat} {fs : List (Nat × D)} {d : D} (h : o[n]? = some (.ins c fs)) (l : fs.lookup k = some d) : fldM c k (.obj n) o = .ok d o := by
  unfold fldM
  dsimp only
  rw [h]
  dsimp only
  rw [if_pos rfl, l]
theorem isO_at {o : Objs} {n c k : Nat} {fs : List (Nat × D)} (h : o[n]? = some (.ins c fs)) (l : fs.lookup k = none) : isO c k (.obj n) o = .ok .non o := by
  unfold isO
  dsimp only
  rw [h]
  dsimp only
  rw [if_pos ⟨rfl, l⟩]
theorem der_at {o : Objs} {n : Nat} {d : D} (h : o[n]? = some (.box d)) : derM (.obj n) o = .ok d o := by
  unfold derM
  dsimp only
  rw [h]
theorem bup_at {o : Objs} {n : Nat} {d : D} {g : D → M (D × D)} {p : D × D} (h : o[n]? = some (.box d)) (e : g d = pure p) : bupM g (.obj n) o = .ok p.1 (o.set n (.box p.2)) := by
  unfold bupM
  dsimp only
  rw [h]
  dsimp only
  rw [e]
  rfl
end WB.C
namespace WB.C
open WB
def kD (n a l : Nat) : D := .tup [.int (n : Int), .str [a], .str [l]]
theorem kD_self (n a l : Nat) : keyEq (kD n a l) (kD n a l) = true := by simp [kD, keyEq, keyEqL]
theorem kD_ne {n a l n' a' l' : Nat} (h : ¬ (n' = n ∧ a' = a ∧ l' = l)) : keyEq (kD n a l) (kD n' a' l') = false := by
  cases q : keyEq (kD n a l) (kD n' a' l') with
  | false => rfl
  | true =>
    have e := keyEq_eq q
    simp only [kD, D.tup.injEq, List.cons.injEq, D.int.injEq, D.str.injEq, and_true] at e
    exact absurd ⟨by omega, e.2.1.symm, e.2.2.symm⟩ h
def Hs (t : List Row) (g : Bool) (ks : List (D × D)) (P : Nat → Nat → Nat → Prop) : Prop := ∀ n a l, P n a l → getD (kD n a l) ks = some (.int (bst t g n a l))
theorem Hs.mono {t : List Row} {g : Bool} {ks : List (D × D)} {P Q : Nat → Nat → Nat → Prop} (h : Hs t g ks P) (k : ∀ n a l, Q n a l → P n a l) : Hs t g ks Q := fun n a l q => h n a l (k n a l q)
theorem Hs.put {t : List Row} {g : Bool} {ks : List (D × D)} {P : Nat → Nat → Nat → Prop} (h : Hs t g ks P) (n a l : Nat) : Hs t g (putD (kD n a l) (.int (bst t g n a l)) ks) fun n' a' l' => P n' a' l' ∨ (n' = n ∧ a' = a ∧ l' = l) := by
  intro n' a' l' p
  by_cases c : n' = n ∧ a' = a ∧ l' = l
  · obtain ⟨rfl, rfl, rfl⟩ := c
    exact getD_put_self (kD_self ..) _
  · rw [getD_put_ne (kD_ne c)]
    exact h _ _ _ (p.resolve_right c)
section
variable {t : List Row} {g : Bool} {Φ : Fns} {body : List S} {N : Nat} {P : Nat → Nat → Nat → Prop} {T x1 x2 x6 : Option D}
end
end WB.C
namespace WB.C
open WB
section
variable {t : List Row} (ht : Tab t) (g : Bool) {many : Nat} (hm : many ≤ 24) {ks : List (D × D)} (hs : Hs t g ks fun n a l => 1 ≤ n ∧ n ≤ many ∧ a ∈ edges t ∧ l ∈ lets t)
include ht hm hs
end
end WB.C
namespace WB.C
open WB
theorem ltT_asym : ∀ {a b : List Nat}, ltT a b = true → ltT b a = false
  | [], [], h => by cases h
  | [], _ :: _, _ => rfl
  | _ :: _, [], h => by cases h
  | a :: r, b :: s, h => by
    by_cases e : a = b
    · subst e
      rw [ltT_cons_eq] at h ⊢
      exact ltT_asym h
    · have h' : (if a = b then ltT r s else decide (a < b)) = true := h
      rw [if_neg e, decide_eq_true_eq] at h'
      show (if b = a then ltT s r else decide (b < a)) = false
      rw [if_neg (Ne.symm e), decide_eq_false_iff_not]
      omega
theorem long_wr {t : List Row} (ht : Tab t) {w : List Nat} (hw : ∀ c ∈ w, c ∈ lets t) : (wr t w).length ≤ 3 * w.length := by
  unfold wr
  rw [List.length_flatten]
  have q : (((tri w).map fun x => tx t x.1 x.2.1 x.2.2).map List.length).sum ≤ 3 * ((tri w).map fun x => tx t x.1 x.2.1 x.2.2).length := sum_le fun y hy => by
    obtain ⟨z, hz, rfl⟩ := List.mem_map.mp hy
    exact (tx_len ht (hw _ (tri_mid hz))).2
  rw [List.length_map, tri_len] at q
  exact q
theorem nodup_len : ∀ {l Z : List Nat}, l.Nodup → (∀ x ∈ l, x ∈ Z) → l.length ≤ Z.length
  | [], Z, _, _ => by simp
  | a :: l, Z, h, k => by
    rw [List.nodup_cons] at h
    have i := nodup_len (l := l) (Z := Z.erase a) h.2 fun x hx => by
      have ne : x ≠ a := fun z => h.1 (by rw [← z]; exact hx)
      exact (List.mem_erase_of_ne ne).mpr (k x (List.mem_cons_of_mem _ hx))
    have m := k a (List.mem_cons_self ..)
    rw [List.length_erase_of_mem m] at i
    have := List.length_pos_of_mem m
    simp only [List.length_cons]
    omega
theorem lets3 {Z : List Nat} {most : Nat} {t : List Row} (h : TabOk Z most t) : (lets t).length ≤ 3 := by
  refine Nat.le_trans (nodup_len (lets_nodup t) fun x hx => ?_) h.s3
  obtain ⟨r, hr, e⟩ := mem_lets.mp hx
  rw [← e]
  exact (h.rows r hr).l
end WB.C
namespace WB.C
open WB
abbrev Ls := List (Nat × List Nat)
def lnD (P : Ls) : List (D × D) := P.map fun p => (D.int (p.1 : Nat), D.str p.2)
def lk (n : Nat) : Ls → Option (List Nat)
  | [] => none
  | p :: r => if p.1 = n then some p.2 else lk n r
def putP (n : Nat) (s : List Nat) (P : Ls) : Ls := if (P.any fun p => decide (p.1 = n)) = true then P.map (fun p => if p.1 = n then (p.1, s) else p) else P ++ [(n, s)]
def dropP (n : Nat) (P : Ls) : Ls := P.filter fun p => !decide (p.1 = n)
def nums (P : Ls) : List Nat := P.map (·.1)
theorem keyEq_nat (a b : Nat) : keyEq (.int (a : Nat)) (.int (b : Nat)) = decide (a = b) := by
  show ((a : Int) == (b : Int)) = _
  rw [Bool.eq_iff_iff, beq_iff_eq, decide_eq_true_eq]
  omega
theorem lk_app (k : Nat) : ∀ P Q : Ls, lk k (P ++ Q) = (lk k P).or (lk k Q)
  | [], Q => by simp [lk]
  | p :: P, Q => by
    show (if p.1 = k then some p.2 else lk k (P ++ Q)) = Option.or (if p.1 = k then some p.2 else lk k P) (lk k Q)
    rw [lk_app k P Q]
    split <;> simp
theorem lk_none {n : Nat} : ∀ {P : Ls}, (P.any fun p => decide (p.1 = n)) = false → lk n P = none
  | [], _ => rfl
  | p :: P, h => by
    simp only [List.any_cons, Bool.or_eq_false_iff, decide_eq_false_iff_not] at h
    show (if p.1 = n then some p.2 else lk n P) = none
    rw [if_neg h.1]
    exact lk_none h.2
theorem lk_map (k n : Nat) (s : List Nat) : ∀ P : Ls, lk k (P.map fun p => if p.1 = n then (p.1, s) else p) = if k = n then (lk n P).map fun _ => s else lk k P
  | [] => by simp [lk]
  | p :: P => by
    have i := lk_map k n s P
    by_cases c : p.1 = n
    · show (if (if p.1 = n then (p.1, s) else p).1 = k then some (if p.1 = n then (p.1, s) else p).2 else lk k (P.map fun p => if p.1 = n then (p.1, s) else p)) = if k = n then Option.map (fun _ => s) (if p.1 = n then some p.2 else lk n P) else if p.1 = k then some p.2 else lk k P
      rw [if_pos c, i]
      by_cases e : k = n
      · subst e
        simp [c]
      · have : ¬ p.1 = k := fun z => e (z.symm.trans c)
        simp [e, this]
    · show (if (if p.1 = n then (p.1, s) else p).1 = k then some (if p.1 = n then (p.1, s) else p).2 else lk k (P.map fun p => if p.1 = n then (p.1, s) else p)) = if k = n then Option.map (fun _ => s) (if p.1 = n then some p.2 else lk n P) else if p.1 = k then some p.2 else lk k P
      rw [if_neg c, i]
      by_cases e : k = n
      · subst e
        simp [c]
      · simp [e, c]
theorem lk_some {n : Nat} : ∀ {P : Ls}, (P.any fun p => decide (p.1 = n)) = true → ∃ s, lk n P = some s
  | [], h => by simp at h
  | p :: P, h => by
    by_cases c : p.1 = n
    · exact ⟨p.2, by simp [lk, c]⟩
    · simp only [List.any_cons, c, decide_false, Bool.false_or] at h
      obtain ⟨s, e⟩ := lk_some h
      exact ⟨s, by simp [lk, c, e]⟩
theorem lk_put (k n : Nat) (s : List Nat) (P : Ls) : lk k (putP n s P) = if k = n then some s else lk k P := by
  unfold putP
  cases c : P.any fun p => decide (p.1 = n) with
  | true =>
    rw [if_pos rfl, lk_map]
    obtain ⟨r, e⟩ := lk_some c
    rw [e]
    rfl
  | false =>
    rw [if_neg (by simp), lk_app]
    by_cases e : k = n
    · subst e
      rw [lk_none c, if_pos rfl]
      simp [lk]
    · rw [if_neg e]
      have : ¬ n = k := fun z => e z.symm
      simp [lk, this]
theorem lk_drop (k n : Nat) : ∀ P : Ls, lk k (dropP n P) = if k = n then none else lk k P
  | [] => by simp [dropP, lk]
  | p :: P => by
    have i := lk_drop k n P
    unfold dropP at i ⊢
    by_cases c : p.1 = n
    · rw [List.filter_cons_of_neg (by simp [c]), i]
      show _ = if k = n then none else if p.1 = k then some p.2 else lk k P
      by_cases e : k = n
      · rw [if_pos e, if_pos e]
      · rw [if_neg e, if_neg e, if_neg fun z => e (z.symm.trans c)]
    · rw [List.filter_cons_of_pos (by simp [c])]
      show (if p.1 = k then some p.2 else lk k _) = if k = n then none else if p.1 = k then some p.2 else lk k P
      rw [i]
      by_cases e : k = n
      · subst e
        rw [if_neg c, if_pos rfl, if_pos rfl]
      · rw [if_neg e, if_neg e]
theorem mem_nums {n : Nat} : ∀ {P : Ls}, n ∈ nums P ↔ (lk n P).isSome = true
  | [] => by simp [nums, lk]
  | p :: P => by
    have i := mem_nums (n := n) (P := P)
    unfold nums at i ⊢
    rw [List.map_cons, List.mem_cons, i]
    show _ ↔ (if p.1 = n then some p.2 else lk n P).isSome = true
    by_cases c : p.1 = n
    · rw [if_pos c]
      simp [c]
    · rw [if_neg c]
      constructor
      · rintro (h | h)
        · exact absurd h.symm c
        · exact h
      · exact .inr
theorem nums_put {n : Nat} {s : List Nat} {P : Ls} (h : (nums P).Nodup) : (nums (putP n s P)).Nodup := by
  unfold putP
  cases c : P.any fun p => decide (p.1 = n) with
  | true =>
    rw [if_pos rfl]
    have : nums (P.map fun p => if p.1 = n then (p.1, s) else p) = nums P := by
      unfold nums
      rw [List.map_map]
      refine List.map_congr_left fun p _ => ?_
      show (if p.1 = n then (p.1, s) else p).1 = p.1
      split <;> rfl
    rw [this]
    exact h
  | false =>
    rw [if_neg (by simp)]
    have e : nums (P ++ [(n, s)]) = nums P ++ [n] := by simp [nums]
    rw [e, List.nodup_append]
    refine ⟨h, by simp, fun a ha b hb z => ?_⟩
    have hb' := List.mem_singleton.mp hb
    subst z
    rw [hb'] at ha
    have := mem_nums.mp ha
    rw [lk_none c] at this
    cases this
theorem nums_drop {n : Nat} {P : Ls} (h : (nums P).Nodup) : (nums (dropP n P)).Nodup := by
  unfold nums dropP
  have : ((P.filter fun p => !decide (p.1 = n)).map (·.1)).Sublist (P.map (·.1)) := List.Sublist.map _ List.filter_sublist
  exact this.nodup h
structure Same (P Q : Ls) : Prop where
  np : (nums P).Nodup
  nq : (nums Q).Nodup
  eq : ∀ n, lk n P = lk n Q
theorem Same.mem {P Q : Ls} (h : Same P Q) {n : Nat} : n ∈ nums P ↔ n ∈ nums Q := by rw [mem_nums, mem_nums, h.eq]
theorem Same.sort {P Q : Ls} (h : Same P Q) : sortMN (nums P) = sortMN (nums Q) :=
  sorted_eq (sortMN_sorted _ h.np) (sortMN_sorted _ h.nq) fun x => by rw [mem_sortMN, mem_sortMN, h.mem]
theorem Same.put {P Q : Ls} (h : Same P Q) (n : Nat) (s : List Nat) : Same (putP n s (dropP n P)) (putP n s Q) := by
  refine ⟨nums_put (nums_drop h.np), nums_put h.nq, fun k => ?_⟩
  rw [lk_put, lk_put, lk_drop, h.eq]
  by_cases e : k = n <;> simp [e]
theorem Same.drop {P Q : Ls} (h : Same P Q) (n : Nat) : Same (dropP n P) (dropP n Q) := ⟨nums_drop h.np, nums_drop h.nq, fun k => by rw [lk_drop, lk_drop, h.eq]⟩
theorem insI_nat (a : Nat) : ∀ l : List Nat, insI (a : Int) (l.map fun (n : Nat) => (n : Int)) = (insM a l).map fun (n : Nat) => (n : Int)
  | [] => rfl
  | b :: r => by
    show (if (b : Int) < (a : Int) then (b : Int) :: insI (a : Int) (r.map fun (n : Nat) => (n : Int)) else (a : Int) :: (b : Int) :: r.map fun (n : Nat) => (n : Int)) = _
    unfold insM
    by_cases c : b < a
    · rw [if_pos (by omega), if_pos c, insI_nat a r]; rfl
    · rw [if_neg (by omega), if_neg c]; rfl
theorem sortI_nat : ∀ l : List Nat, sortI (l.map fun (n : Nat) => (n : Int)) = (sortMN l).map fun (n : Nat) => (n : Int)
  | [] => rfl
  | a :: l => by
    show insI (a : Int) (sortI (l.map fun (n : Nat) => (n : Int))) = (insM a (sortMN l)).map fun (n : Nat) => (n : Int)
    rw [sortI_nat l, insI_nat]
theorem keys_ln (P : Ls) : (lnD P).map (·.1) = ((nums P).map fun (n : Nat) => (n : Int)).map D.int := by
  unfold lnD nums
  rw [List.map_map, List.map_map, List.map_map]
  rfl
theorem b_sortD {P : Ls} (h : P.length < 64) : blt1M .sortedD (.dic false (lnD P)) = pure (.lst (intsD (sortMN (nums P)))) := by
  show sortDM (.dic false (lnD P)) = _
  unfold sortDM
  dsimp only
  rw [keys_ln, ints_map]
  dsimp only
  rw [if_pos (by simpa [nums] using h), sortI_nat, List.map_map]
  rfl
end WB.C
namespace WB.C
open WB
def shown (t : List Row) (s : List Nat) : List Nat := joinT [32] ((wordsOf s).map (wr t))
structure LOk (t : List Row) (s : List Nat) : Prop where
  ok : lineB t (.str s) = true
  len : s.length ≤ 60
theorem LOk.words {t : List Row} {s : List Nat} (h : LOk t s) : ∀ w ∈ wordsOf s, w.length ≤ 24 ∧ ∀ c ∈ w, c ∈ lets t := fun w hw => word_of (List.all_eq_true.mp h.ok w hw)
theorem LOk.line {t : List Row} (ht : Tab t) {s : List Nat} (h : LOk t s) : d_line_written [tabD t, .str s] = pure (.str (shown t s)) := ok_line_written ht (by have := h.len; omega) h.ok
theorem LOk.law {t : List Row} (ht : Tab t) {s : List Nat} (h : LOk t s) : d__law_shown [tabD t, .str s] = pure (.str (shown t s)) := by
  have sl := spl_len1 (c := 32) s []
  have hl := h.len
  have wk := h.words
  have e1 : evE (tab [d__law_written]) (.comp (.name 2) (.ival (.mth .split true (.slot 1) [.cst (.str [32])])) none (.call 0 [.slot 0, .slot 2]) [2]) [some (tabD t), some (.str s), none] = pure (.lst ((wordsOf s).map fun w => D.str (wr t w))) := by
    refine ev_map (u := D.str) ?_ (by have := sl.1; unfold wordsOf; simp [sz]; omega) fun w hw => ?_
    · simp only [v_ival, v_mth, v_acons, v_anil, v_slot, v_cst, List.getElem?_cons_zero, List.getElem?_cons_succ, getS_some, L1_pure, L2_pure, ifTy_s, consM_pure, m_split32 s (by omega), items_lst]
      rfl
    · simp only [wipeD, List.set_cons_succ, List.set_cons_zero, v_call, v_acons, v_anil, v_slot, List.getElem?_cons_zero, List.getElem?_cons_succ, getS_some, L1_pure, L2_pure, consM_pure, tab0]
      exact ok_law_written ht (wk w hw).2 (by have := (wk w hw).1; omega)
  have e2 : ((wordsOf s).map fun w => D.str (wr t w)) = strsD ((wordsOf s).map (wr t)) := by unfold strsD; rw [List.map_map]; rfl
  unfold d__law_shown c__law_shown
  rw [den2]
  have r3 : (some (tabD t) :: some (D.str s) :: List.replicate (3 - 2) (none : Option D)) = [some (tabD t), some (.str s), none] := rfl
  rw [r3]
  simp only [x_cons, x_ret, v_mth, v_cst, v_acons, v_anil, e1, e2, L1_pure, L2_pure, ifTy_s, consM_pure]
  rw [m_join1 _ ?_]
  · rfl
  · have : (((wordsOf s).map (wr t)).map List.length).sum ≤ 72 * ((wordsOf s).map (wr t)).length := sum_le fun x hx => by
      obtain ⟨w, hw, rfl⟩ := List.mem_map.mp hx
      have a := long_wr ht (wk w hw).2
      have b := (wk w hw).1
      omega
    rw [List.length_map] at this ⊢
    have b : (wordsOf s).length ≤ s.length + 1 := sl.1
    simp only [sz]
    omega
end WB.C
namespace WB.C
open WB
def setRow (t : List Row) (i : Nat) (x : List Nat) : List Row := t.take i ++ [{ t.getD i row0 with t := x }] ++ t.drop (i + 1)
def lessRow (t : List Row) (i : Nat) : List Row := t.take i ++ t.drop (i + 1)
def moveRow (t : List Row) (i j : Nat) : List Row := (lessRow t i).take j ++ [t.getD i row0] ++ (lessRow t i).drop j
theorem split_at {α : Type} {l : List α} {i : Nat} {d : α} (h : i < l.length) : l = l.take i ++ [l.getD i d] ++ l.drop (i + 1) := by
  have e : l.getD i d = l[i] := by simp [List.getD_eq_getElem?_getD, h]
  rw [e, List.append_assoc, List.singleton_append, ← List.drop_eq_getElem_cons h, List.take_append_drop]
theorem mem_less {t : List Row} {i : Nat} (h : i < t.length) (r : Row) : r ∈ t ↔ r = t.getD i row0 ∨ r ∈ lessRow t i := by
  conv => lhs; rw [split_at (d := row0) h]
  unfold lessRow
  simp only [List.mem_append, List.mem_singleton]
  constructor
  · rintro ((h | h) | h)
    · exact .inr (.inl h)
    · exact .inl h
    · exact .inr (.inr h)
  · rintro (h | h | h)
    · exact .inl (.inr h)
    · exact .inl (.inl h)
    · exact .inr h
theorem mem_move {t : List Row} {i : Nat} (j : Nat) (h : i < t.length) (r : Row) : r ∈ moveRow t i j ↔ r ∈ t := by
  rw [mem_less h]
  have e : r ∈ lessRow t i ↔ r ∈ (lessRow t i).take j ∨ r ∈ (lessRow t i).drop j := by
    rw [← List.mem_append, List.take_append_drop]
  rw [e]
  unfold moveRow
  simp only [List.mem_append, List.mem_singleton]
  constructor
  · rintro ((h | h) | h)
    · exact .inr (.inl h)
    · exact .inl h
    · exact .inr (.inr h)
  · rintro (h | h | h)
    · exact .inl (.inr h)
    · exact .inl (.inl h)
    · exact .inr h
theorem less_len {t : List Row} {i : Nat} (h : i < t.length) : (lessRow t i).length = t.length - 1 := by
  unfold lessRow
  rw [List.length_append, List.length_take, List.length_drop]
  omega
theorem move_len {t : List Row} {i : Nat} (j : Nat) (h : i < t.length) : (moveRow t i j).length = t.length := by
  have := less_len h
  unfold moveRow
  rw [List.length_append, List.length_append, List.length_take, List.length_drop, this]
  simp
  omega
theorem set_len {t : List Row} {i : Nat} (x : List Nat) (h : i < t.length) : (setRow t i x).length = t.length := by
  unfold setRow
  rw [List.length_append, List.length_append, List.length_take, List.length_drop]
  simp
  omega
theorem lets_eq {s t : List Row} (h : ∀ c, (∃ r ∈ s, r.l = c) ↔ ∃ r ∈ t, r.l = c) : lets s = lets t :=
  sorted_eq (sortN_sorted _) (sortN_sorted _) fun x => by
    show x ∈ lets s ↔ x ∈ lets t
    rw [mem_lets, mem_lets, h]
theorem move_lets {t : List Row} {i : Nat} (j : Nat) (h : i < t.length) : lets (moveRow t i j) = lets t := lets_eq fun c => by
  constructor
  · rintro ⟨r, hr, e⟩; exact ⟨r, (mem_move j h r).mp hr, e⟩
  · rintro ⟨r, hr, e⟩; exact ⟨r, (mem_move j h r).mpr hr, e⟩
theorem move_tab {t : List Row} (ht : Tab t) {i : Nat} (j : Nat) (h : i < t.length) : Tab (moveRow t i j) := by
  refine of_tab (by rw [move_len j h]; exact ht.n1) (by rw [move_len j h]; exact ht.n10) (fun r hr => ht.rw r ((mem_move j h r).mp hr)) fun r hr => ?_
  obtain ⟨b, hb, e⟩ := ht.has r.l (mem_lets.mpr ⟨r, (mem_move j h r).mp hr, rfl⟩)
  exact ⟨b, (mem_move j h b).mpr hb, e⟩
theorem mem_set {t : List Row} {i : Nat} {x : List Nat} (r : Row) : r ∈ setRow t i x ↔ r = { t.getD i row0 with t := x } ∨ r ∈ lessRow t i := by
  unfold setRow lessRow
  simp only [List.mem_append, List.mem_singleton]
  constructor
  · rintro ((h | h) | h)
    · exact .inr (.inl h)
    · exact .inl h
    · exact .inr (.inr h)
  · rintro (h | h | h)
    · exact .inl (.inr h)
    · exact .inl (.inl h)
    · exact .inr h
theorem set_lets {t : List Row} {i : Nat} (x : List Nat) (h : i < t.length) : lets (setRow t i x) = lets t := lets_eq fun c => by
  constructor
  · rintro ⟨r, hr, e⟩
    rcases (mem_set r).mp hr with rfl | hr
    · exact ⟨t.getD i row0, (mem_less h _).mpr (.inl rfl), e⟩
    · exact ⟨r, (mem_less h r).mpr (.inr hr), e⟩
  · rintro ⟨r, hr, e⟩
    rcases (mem_less h r).mp hr with rfl | hr
    · exact ⟨_, (mem_set _).mpr (.inl rfl), e⟩
    · exact ⟨r, (mem_set r).mpr (.inr hr), e⟩
theorem set_tab {t : List Row} (ht : Tab t) {i : Nat} {x : List Nat} (h : i < t.length) (hx : txOk x) : Tab (setRow t i x) := by
  have m0 : t.getD i row0 ∈ t := (mem_less h _).mpr (.inl rfl)
  refine of_tab (by rw [set_len x h]; exact ht.n1) (by rw [set_len x h]; exact ht.n10) (fun r hr => ?_) fun r hr => ?_
  · rcases (mem_set r).mp hr with rfl | hr
    · have q := ht.rw _ m0
      exact ⟨q.a, q.b, q.l, hx.1, hx.2.1, hx.2.2⟩
    · exact ht.rw r ((mem_less h r).mpr (.inr hr))
  · have hl : r.l ∈ lets t := by
      rw [← set_lets x h]
      exact mem_lets.mpr ⟨r, hr, rfl⟩
    obtain ⟨b, hb, e1, e2, e3⟩ := ht.has r.l hl
    rcases (mem_less h b).mp hb with rfl | hb
    · exact ⟨_, (mem_set _).mpr (.inl rfl), e1, e2, e3⟩
    · exact ⟨b, (mem_set b).mpr (.inr hb), e1, e2, e3⟩
theorem LOk.over {s t : List Row} (h : lets s = lets t) {x : List Nat} (k : LOk t x) : LOk s x := by
  refine ⟨?_, k.len⟩
  have e := k.ok
  unfold lineB wordB at e ⊢
  rw [h]
  exact e
def nowD (t : List Row) (P : Ls) (num : Nat) : D := .tup [tabD t, .dic false (lnD P), .int (num : Nat)]
def lnOf (P : Ls) (n : Nat) : List Nat := (lk n P).getD []
def keysS (P : Ls) : List Nat := sortMN (nums P)
def dueD (t : List Row) (P : Ls) (num : Nat) : D := .lst [tabD t, .lst (intsD (keysS P)), .lst (strsD ((keysS P).map (lnOf P))), .lst (strsD ((keysS P).map fun n => shown t (lnOf P n))), .int (num : Nat)]
theorem Same.due {P Q : Ls} (h : Same P Q) (t : List Row) (num : Nat) : dueD t P num = dueD t Q num := by
  have e : lnOf P = lnOf Q := funext fun n => by unfold lnOf; rw [h.eq]
  have k : keysS P = keysS Q := h.sort
  unfold dueD
  rw [e, k]
structure NOk (t : List Row) (P : Ls) (num : Nat) : Prop where
  ht : Tab t
  nd : (nums P).Nodup
  lines : ∀ n s, lk n P = some s → LOk t s
  lt : ∀ n ∈ nums P, n < num
  num : num ≤ 20
theorem NOk.few {t : List Row} {P : Ls} {num : Nat} (h : NOk t P num) : P.length ≤ num := by
  have := nodup_len h.nd fun x hx => List.mem_range.mpr (h.lt x hx)
  rw [List.length_range] at this
  simpa [nums] using this
theorem NOk.sorted {t : List Row} {P : Ls} {num : Nat} (h : NOk t P num) : blt1M .sortedD (.dic false (lnD P)) = pure (.lst (intsD (keysS P))) := b_sortD (by have := h.few; have := h.num; omega)
end WB.C
namespace WB.C
open WB
inductive Deed where
  | put (s : List Nat)
  | change (n : Nat) (s : List Nat)
  | drop (n : Nat) (s : List Nat)
  | setRow (i : Nat) (x : List Nat)
  | moveRow (i j : Nat)
def DOk (t : List Row) (num : Nat) : Deed → Prop
  | .put s => LOk t s
  | .change n s => n ≤ num ∧ LOk t s
  | .drop n _ => n ≤ num
  | .setRow i x => i < t.length ∧ txOk x
  | .moveRow i j => i < t.length ∧ j < t.length
def newT (t : List Row) : Deed → List Row
  | .setRow i x => setRow t i x
  | .moveRow i j => moveRow t i j
  | _ => t
def newP (P : Ls) (num : Nat) : Deed → Ls
  | .put s => putP num s (dropP num P)
  | .change n s => if (lk n P).isSome = true then putP n s (dropP n P) else P
  | .drop n _ => if (lk n P).isSome = true then dropP n P else P
  | _ => P
def nwN (num : Nat) : Deed → Nat
  | .put _ => num + 1
  | _ => num
theorem newT_tab {t : List Row} (ht : Tab t) {num : Nat} : ∀ {d : Deed}, DOk t num d → Tab (newT t d) ∧ lets (newT t d) = lets t
  | .put _, _ => ⟨ht, rfl⟩
  | .change _ _, _ => ⟨ht, rfl⟩
  | .drop _ _, _ => ⟨ht, rfl⟩
  | .setRow i x, h => ⟨set_tab ht h.1 h.2, set_lets x h.1⟩
  | .moveRow i j, h => ⟨move_tab ht j h.1, move_lets j h.1⟩
theorem lk_lt {t : List Row} {P : Ls} {num n : Nat} (h : NOk t P num) (k : (lk n P).isSome = true) : n < num := h.lt n (mem_nums.mpr k)
theorem NOk.next {t : List Row} {P : Ls} {num : Nat} (h : NOk t P num) (n19 : num ≤ 19) {d : Deed} (k : DOk t num d) : NOk (newT t d) (newP P num d) (nwN num d) := by
  obtain ⟨tb, tl⟩ := newT_tab h.ht k
  have over : ∀ n s, lk n P = some s → LOk (newT t d) s := fun n s e => (h.lines n s e).over tl
  have put : ∀ n s num', LOk t s → n < num' → num ≤ num' → num' ≤ 20 → NOk t (putP n s (dropP n P)) num' := fun n s num' hs hn hm h20 => by
    refine ⟨h.ht, nums_put (nums_drop h.nd), fun m x e => ?_, fun m hm' => ?_, h20⟩
    · rw [lk_put, lk_drop] at e
      by_cases c : m = n
      · rw [if_pos c] at e
        cases e
        exact hs
      · rw [if_neg c, if_neg c] at e
        exact h.lines m x e
    · rw [mem_nums, lk_put, lk_drop] at hm'
      by_cases c : m = n
      · omega
      · rw [if_neg c, if_neg c] at hm'
        have := h.lt m (mem_nums.mpr hm')
        omega
  cases d with
  | put s => exact put num s (num + 1) k (by omega) (by omega) (by omega)
  | change n s =>
    show NOk t (if (lk n P).isSome = true then putP n s (dropP n P) else P) num
    by_cases c : (lk n P).isSome = true
    · rw [if_pos c]
      exact put n s num k.2 (lk_lt h c) (by omega) h.num
    · rw [if_neg c]
      exact h
  | drop n s =>
    show NOk t (if (lk n P).isSome = true then dropP n P else P) num
    by_cases c : (lk n P).isSome = true
    · rw [if_pos c]
      refine ⟨h.ht, nums_drop h.nd, fun m x e => ?_, fun m hm' => ?_, h.num⟩
      · rw [lk_drop] at e
        by_cases c : m = n
        · rw [if_pos c] at e; cases e
        · rw [if_neg c] at e
          exact h.lines m x e
      · rw [mem_nums, lk_drop] at hm'
        by_cases c : m = n
        · rw [if_pos c] at hm'; cases hm'
        · rw [if_neg c] at hm'
          exact h.lt m (mem_nums.mpr hm')
    · rw [if_neg c]
      exact h
  | setRow i x => exact ⟨tb, h.nd, over, h.lt, h.num⟩
  | moveRow i j => exact ⟨tb, h.nd, over, h.lt, h.num⟩
end WB.C
namespace WB.C
open WB
section
variable {t : List Row} {P : Ls} {num : Nat} (h : NOk t P num) (ns : List Int) {at_ : Int} (h0 : 0 ≤ at_)
include h h0
end
end WB.C
namespace WB.C
open WB
def deskF (now : D) (p l : Nat) : List (Nat × D) := [(5, now), (6, .obj p), (7, .obj l)]
def DS (o : Objs) (n : Nat) (now : D) (c : Nat) : Prop := ∃ p l past, o[n]? = some (.ins 2 (deskF now p l)) ∧ o[p]? = some (.box (.lst past)) ∧ past.length ≤ c
theorem DS.at {o : Objs} {n c : Nat} {now : D} (h : DS o n now c) : ∃ p l, o[n]? = some (.ins 2 (deskF now p l)) := let ⟨p, l, _, h1, _, _⟩ := h; ⟨p, l, h1⟩
theorem DS.now {o : Objs} {n c : Nat} {now : D} (h : DS o n now c) : fldM 2 5 (.obj n) o = .ok now o := by
  obtain ⟨p, l, h⟩ := h.at
  exact fld_at h rfl
theorem DS.meth {o : Objs} {n c k : Nat} {now : D} (h : DS o n now c) (hk : k ≠ 5 ∧ k ≠ 6 ∧ k ≠ 7) : isO 2 k (.obj n) o = .ok .non o := by
  obtain ⟨p, l, h⟩ := h.at
  refine isO_at h ?_
  unfold deskF
  rw [List.lookup_cons, List.lookup_cons, List.lookup_cons]
  have a : (k == 5) = false := by simpa using hk.1
  have b : (k == 6) = false := by simpa using hk.2.1
  have c : (k == 7) = false := by simpa using hk.2.2
  rw [a, b, c]
  rfl
end WB.C
namespace WB.C
open WB
theorem ev_mapO {Φ : Fns} {i : Nat} {it elt : E} {own : List Nat} {m : Slots} {o : Objs} {α : Type} {xs : List α} {u v : α → D} (hi : evI Φ it m o = .ok (xs.map u) o) (hl : xs.length < sz)
    (h : ∀ x ∈ xs, evE Φ elt ((wipeD m own).set i (some (u x))) o = .ok (v x) o) : evE Φ (.comp (.name i) it none elt own) m o = .ok (.lst (xs.map v)) o := by
  have key : ∀ ys : List α, (∀ x ∈ ys, x ∈ xs) → mapM' (fun x => bindD (.name i) x (wipeD m own) >>= fun m' => evC Φ none m' >>= fun b => if b then evE Φ elt m' >>= fun y => pure (some y) else pure none) (ys.map u) o = .ok (ys.map v) o := by
    intro ys
    induction ys with
    | nil => intro _; rfl
    | cons y ys ih =>
      intro hy
      have ym := hy y (List.mem_cons_self ..)
      have e2 := ih fun x hx => hy x (List.mem_cons_of_mem _ hx)
      show ((bindD (.name i) (u y) (wipeD m own) >>= fun m' => evC Φ none m' >>= fun b => if b then evE Φ elt m' >>= fun y => pure (some y) else pure none) >>= fun a => mapM' _ (ys.map u) >>= fun r => pure (match a with | some y => y :: r | none => r)) o = _
      rw [bnd_ap, bind_name, pure_bnd, bnd_ap, v_cnone, pure_ap, seqR_ok, if_pos rfl, bnd_ap, h y ym, seqR_ok, pure_ap, seqR_ok, bnd_ap, e2, seqR_ok]
      rfl
  show (evI Φ it m >>= fun xs => shut (mapM' _ xs) >>= fun ys => if xs.length < sz then pure (D.lst ys) else M.fail) o = _
  rw [bnd_ap, hi, seqR_ok, bnd_ap]
  have ks := key xs fun x hx => hx
  unfold shut
  rw [ks]
  dsimp only
  rw [seqR_ok, if_pos (by simpa using hl)]
  rfl
section
variable {o : Objs} {n c : Nat} {t : List Row} {P : Ls} {num : Nat} (h : DS o n (nowD t P num) c)
include h
end
end WB.C
namespace WB.C
open WB
section
variable {o : Objs} {n c : Nat} {t : List Row} {P : Ls} {num : Nat} (h : DS o n (nowD t P num) c) (hc : c ≤ 1000) (hP : P.length ≤ 60)
include h hc hP
end
end WB.C
namespace WB.C
open WB
section
variable {o : Objs} {n c : Nat} {t : List Row} {P : Ls} {num : Nat} (h : DS o n (nowD t P num) c) (hc : c ≤ 1000) (k : NOk t P num)
include h hc k
end
end WB.C
namespace WB.C
open WB
theorem DS.mono {o : Objs} {n c c' : Nat} {now : D} (h : DS o n now c) (k : c ≤ c') : DS o n now c' := let ⟨p, l, past, h1, h2, h3⟩ := h; ⟨p, l, past, h1, h2, Nat.le_trans h3 k⟩
end WB.C
namespace WB.C
open WB
def DS2 (o : Objs) (n : Nat) (now : D) (A B : List D) : Prop := ∃ p l, o[n]? = some (.ins 2 (deskF now p l)) ∧ o[p]? = some (.box (.lst A)) ∧ o[l]? = some (.box (.lst B)) ∧ p ≠ l
theorem DS2.ds {o : Objs} {n : Nat} {now : D} {A B : List D} (h : DS2 o n now A B) : DS o n now A.length := let ⟨p, l, h1, h2, _, _⟩ := h; ⟨p, l, A, h1, h2, Nat.le_refl _⟩
section
variable {o : Objs} {n : Nat} {t : List Row} {P : Ls} {num : Nat} {A B : List D} (h2 : DS2 o n (nowD t P num) A B) (hc : A.length ≤ 1000) (hP : P.length ≤ 60)
include h2 hc hP
end
section
variable {o : Objs} {n : Nat} {t : List Row} {P : Ls} {num : Nat} {A B : List D} (h2 : DS2 o n (nowD t P num) A B) (hc : A.length ≤ 1000) (k : NOk t P num)
include h2 hc k
end
end WB.C
namespace WB.C
open WB
end WB.C
namespace WB.C
open WB
theorem v_rv2 {Φ : Fns} {m : Slots} (a : E) : evE Φ (.rv2 a) m = L1 rv2M (evE Φ a m) := rfl
theorem v_told' {Φ : Fns} {m : Slots} (ws : List (Option (List Nat))) (c : E) : evE Φ (.told ws c) m = tellM ws (evE Φ c m) := rfl
def tellR (ws : List (Option (List Nat))) (r : Res D) : Res D := match r with
  | .ok d o' => .ok d o'
  | .exn k o' => (match ws[k]? with
    | some (some w) => .ok (.str w) o'
    | _ => .stuck)
  | .stuck => .stuck
theorem tell_ap (ws : List (Option (List Nat))) (x : M D) (o : Objs) : tellM ws x o = tellR ws (x o) := rfl
theorem tab_s (f : List D → M D) (l : List (List D → M D)) (k : Nat) : tab (f :: l) (k + 1) = tab l k := rfl
theorem brk_fol (Φ : Fns) (F : Nat) (r : List S) (m : Slots) : folM Φ F r (.brk m) = pure (.brk m) := rfl
theorem cont_fol (Φ : Fns) (F : Nat) (r : List S) (m : Slots) : folM Φ F r (.cont m) = pure (.cont m) := rfl
theorem notD_ap (x : M D) (o : Objs) : notM x o = seqR (x o) fun d => iteB d (pure (.bl false)) (pure (.bl true)) := by
  show (x >>= fun d => d.asB >>= fun t => pure (D.bl (!t))) o = _
  rw [bnd_ap]
  congr 1
  funext d
  cases d with
  | bl b => cases b <;> rfl
  | _ => rfl
theorem gz (a : Option D) (l : Slots) : (a :: l)[0]? = some a := rfl
theorem gs (a : Option D) (l : Slots) (k : Nat) : (a :: l)[k + 1]? = l[k]? := rfl
theorem sz0 (a b : Option D) (l : Slots) : (a :: l).set 0 b = b :: l := rfl
theorem ss (a b : Option D) (l : Slots) (k : Nat) : (a :: l).set (k + 1) b = a :: l.set k b := rfl
theorem rs (k : Nat) (a : Option D) : List.replicate (k + 1) a = a :: List.replicate k a := rfl
theorem rz (a : Option D) : List.replicate 0 a = [] := rfl
def EV1 := And.intro @x_cons <| And.intro @x_nil <| And.intro @seqM_ap <| And.intro @x_set <| And.intro @x_setT <| And.intro @x_setO <| And.intro @x_par <| And.intro @x_if <| And.intro @x_ret <| And.intro @x_retN <| And.intro @x_expr <| And.intro @x_fset <| And.intro @x_for <| And.intro @x_raise <| And.intro @x_app <| And.intro @x_ext <| And.intro @x_brk <| And.intro @x_cont @x_pass
def EV2 := And.intro @L1_ap <| And.intro @L2_ap <| And.intro @L3_ap <| And.intro @L1_pure <| And.intro @L2_pure <| And.intro @L3_pure <| And.intro @pure_ap <| And.intro @throw_ap <| And.intro @seqR_ok <| And.intro @seqR_exn <| And.intro @folM_next <| And.intro @folM_ret <| And.intro @brk_fol <| And.intro @cont_fol <| And.intro @iteM_ap <| And.intro @orM_ap <| And.intro @andM_ap <| And.intro @notD_ap <| And.intro @iteB_t <| And.intro @iteB_f <| And.intro @end_ret @end_next
def EV3 := And.intro @v_slot <| And.intro @v_cst <| And.intro @v_bin <| And.intro @v_neg <| And.intro @v_or <| And.intro @v_and <| And.intro @v_not <| And.intro @v_ite <| And.intro @v_tup <| And.intro @v_lst <| And.intro @v_idx <| And.intro @v_sl <| And.intro @v_rev <| And.intro @v_rv2 <| And.intro @v_isi <| And.intro @v_call <| And.intro @v_blt <| And.intro @v_mth <| And.intro @v_acons <| And.intro @v_anil <| And.intro @v_onone <| And.intro @v_osome <| And.intro @v_ival <| And.intro @v_irng <| And.intro @v_ienum <| And.intro @v_fld <| And.intro @v_meth <| And.intro @v_new <| And.intro @v_frz <| And.intro @v_box <| And.intro @v_bidx <| And.intro @v_bbin <| And.intro @v_bblt <| And.intro @v_bapp <| And.intro @v_bpop <| And.intro @v_told' @tell_ap
def EV4 := And.intro @getS_some <| And.intro @consM_pure <| And.intro @setM_pure <| And.intro @setOM_lst <| And.intro @retM_pure <| And.intro @dropM_pure <| And.intro @newR_non <| And.intro @frzM_dic <| And.intro @someI_int <| And.intro @negM_int <| And.intro @o_addI <| And.intro @o_subI <| And.intro @o_ltI <| And.intro @o_leI <| And.intro @o_gtI <| And.intro @o_geI <| And.intro @b_blt1 <| And.intro @b_lenL <| And.intro @b_lenT <| And.intro @tupM1 <| And.intro @tupM2 <| And.intro @tupM3 <| And.intro @tupM4 <| And.intro @tupM5 <| And.intro @lstM_nil <| And.intro @lstM1 <| And.intro @lstM2 <| And.intro @lstM3 <| And.intro @lstM4 <| And.intro @lstM5 <| And.intro @ifTy_s <| And.intro @ifTy_l <| And.intro @items_lst <| And.intro @items_tup <| And.intro @items_str <| And.intro @tab0 <| And.intro @tab_s <| And.intro @gz <| And.intro @gs <| And.intro @sz0 <| And.intro @ss <| And.intro @rs @rz
end WB.C
namespace WB.C
open WB
def wrA (t : List Row) (a : Nat) (w : List Nat) : List Nat := ((trA a w).map fun x => tx t x.1 x.2.1 x.2.2).flatten
theorem no35 {t : List Row} (ht : Tab t) {c : Nat} (h : c ∈ lets t) : c ≠ 35 := by
  obtain ⟨r, hr, rfl⟩ := mem_lets.mp h
  intro e
  have g := (ht.rw r hr).l
  rw [e] at g
  revert g
  decide
def sol (t : List Row) (s : List Nat) : Nat → Nat → Nat → Nat → List (List Nat)
  | 0, _, _, _ => []
  | k + 1, p, a, l => if l = 35 then (if p = s.length then [[]] else []) else (35 :: lets t).flatMap fun b => if (s.drop p).take (tx t a l b).length = tx t a l b then (sol t s k (p + (tx t a l b).length) l b).map (l :: ·) else []
def RW_ (t : List Row) (s : List Nat) (p a l : Nat) (w : List Nat) : Prop := w.headD 35 = l ∧ (∀ c ∈ w, c ∈ lets t) ∧ wrA t a w = s.drop p
theorem nil_of {t : List Row} (ht : Tab t) {s : List Nat} {p a : Nat} {w : List Nat} (h : RW_ t s p a 35 w) : w = [] := by
  cases w with
  | nil => rfl
  | cons c w => exact absurd (show c = 35 from h.1) (no35 ht (h.2.1 c (by simp)))
end WB.C
namespace WB.C
open WB
inductive NoNum (n : Nat) : D → Prop where
  | int (i : Int) (h : ¬ (0 ≤ i ∧ i < n)) : NoNum n (.int i)
  | bl (b : Bool) : NoNum n (.bl b)
  | non : NoNum n .non
  | str (s : List Nat) : NoNum n (.str s)
  | tup (l : List D) : NoNum n (.tup l)
inductive NoHere (P : Ls) : D → Prop where
  | int (i : Int) (h : getD (.int i) (lnD P) = none) : NoHere P (.int i)
  | bl (b : Bool) : NoHere P (.bl b)
  | non : NoHere P .non
  | str (s : List Nat) : NoHere P (.str s)
  | tup (l : List D) : NoHere P (.tup l)
theorem mul_str (a : List Nat) (k : Nat) (h : k ≤ 1000) (ha : a.length ≤ 1000) : opM .mul (.str a) (.int (k : Nat)) = pure (.str (rep k a)) := by
  show (if 0 ≤ (k : Int) ∧ (k : Int) ≤ 1000 ∧ a.length ≤ 1000 then pure (D.str (rep (k : Int).toNat a)) else M.fail) = _
  rw [if_pos ⟨by omega, by omega, ha⟩, Int.toNat_natCast]
def forF (Φ : Fns) (F : Nat) (t : Tg) (body : List S) (xs : List D) (f : Fl) : M Fl := match f with
  | .next m' => forX Φ F t body m' xs
  | .cont m' => forX Φ F t body m' xs
  | .brk m' => pure (.next m')
  | .ret d => pure (.ret d)
theorem for_cons (Φ : Fns) (F i : Nat) (body : List S) (m : Slots) (x : D) (xs : List D) (o : Objs) : forX Φ F (.name i) body m (x :: xs) o = seqR (exL Φ F body (m.set i (some x)) o) (forF Φ F (.name i) body xs) := by
  show ((bindD (.name i) x m >>= fun m' => exL Φ F body m') >>= _) o = _
  rw [bnd_ap]
  congr 1
theorem forF_next (Φ : Fns) (F : Nat) (t : Tg) (body : List S) (xs : List D) (m : Slots) : forF Φ F t body xs (.next m) = forX Φ F t body m xs := rfl
section
variable {o : Objs} {n c : Nat} {t : List Row} {P : Ls} {num : Nat} (h : DS o n (nowD t P num) c)
include h
end
end WB.C
namespace WB.C
open WB
end WB.C
namespace WB.C
open WB
def DP (K : Nat → Option Ob) (o : Objs) (n : Nat) (now : D) (A B : List D) : Prop := ∃ p l, o[n]? = some (.ins 2 (deskF now p l)) ∧ o[p]? = some (.box (.lst A)) ∧ o[l]? = some (.box (.lst B)) ∧ p ≠ l ∧ ∀ j b, K j = some b → o[j]? = some b ∧ j ≠ n ∧ j ≠ p ∧ j ≠ l
theorem DP.ds {K : Nat → Option Ob} {o : Objs} {n : Nat} {now : D} {A B : List D} (h : DP K o n now A B) : DS o n now A.length := let ⟨p, l, h1, h2, _, _, _⟩ := h; ⟨p, l, A, h1, h2, Nat.le_refl _⟩
theorem DP.ds2 {K : Nat → Option Ob} {o : Objs} {n : Nat} {now : D} {A B : List D} (h : DP K o n now A B) : DS2 o n now A B := let ⟨p, l, h1, h2, h3, h4, _⟩ := h; ⟨p, l, h1, h2, h3, h4⟩
section
variable {K : Nat → Option Ob} {o : Objs} {n : Nat} {t : List Row} {P : Ls} {num : Nat} {A B : List D} (h2 : DP K o n (nowD t P num) A B) (hc : A.length ≤ 1000) (hP : P.length ≤ 60)
include h2 hc hP
end
section
variable {K : Nat → Option Ob} {o : Objs} {n : Nat} {t : List Row} {P : Ls} {num : Nat} {A B : List D} (h2 : DP K o n (nowD t P num) A B) (hc : A.length ≤ 1000) (k : NOk t P num)
include h2 hc k
end
end WB.C
namespace WB.C
open WB
end WB.C
namespace WB.C
open WB
theorem spl_sign (c : Nat) : ∀ (s acc : List Nat), c ∈ acc ++ s → c = 32 ∨ ∃ w ∈ splT [32] 0 acc s, c ∈ w
  | [], acc, h => .inr ⟨acc, by simp [splT], by simpa using h⟩
  | a :: r, acc, h => by
    by_cases ha : a = 32
    · subst ha
      have e : splT [32] 0 acc (32 :: r) = acc :: splT [32] 0 [] r := by
        show (if preT [32] (32 :: r) then acc :: splT [32] ([32].length - 1) [] r else _) = _
        rw [if_pos (by simp [preT])]
        rfl
      rw [e]
      rcases List.mem_append.mp h with h | h
      · exact .inr ⟨acc, by simp, h⟩
      · rcases List.mem_cons.mp h with h | h
        · exact .inl h
        · rcases spl_sign c r [] (by simpa using h) with z | ⟨w, hw, hc⟩
          · exact .inl z
          · exact .inr ⟨w, List.mem_cons_of_mem _ hw, hc⟩
    · have e : splT [32] 0 acc (a :: r) = splT [32] 0 (acc ++ [a]) r := by
        show (if preT [32] (a :: r) then _ else splT [32] 0 (acc ++ [a]) r) = _
        rw [if_neg (by simp [preT, ha])]
      rw [e]
      exact spl_sign c r (acc ++ [a]) (by simpa using h)
theorem LOk.signs {t : List Row} {s : List Nat} (h : LOk t s) : ∀ c ∈ s, c = 32 ∨ c ∈ lets t := by
  intro c hc
  rcases spl_sign c s [] (by simpa using hc) with z | ⟨w, hw, hcw⟩
  · exact .inl z
  · exact .inr ((h.words w hw).2 c hcw)
end WB.C
namespace WB.C
open WB
structure HS where
  t : List Row
  L : List (Nat × D)
  S : List (D × D)
  c : Nat
  q : List D
def lnK (L : List (Nat × D)) : List (D × D) := L.map fun p => (D.int (p.1 : Nat), p.2)
def handF (x : HS) (n : Nat) : List (Nat × D) := [(0, tabD x.t), (8, .obj (n + 1)), (9, .obj (n + 2)), (10, .int (x.c : Nat)), (11, .obj (n + 3))]
def cellOf (x : HS) (n : Nat) : Nat → Ob
  | 0 => .ins 3 (handF x n)
  | 1 => .box (.dic false (lnK x.L))
  | 2 => .box (.dic true x.S)
  | _ => .box (.lst x.q)
def HAt (o : Objs) (n : Nat) (x : HS) : Prop := ∀ k < 4, o[n + k]? = some (cellOf x n k)
def hp (b h : Nat) : Nat := b + 1 + 4 * h
structure TP (K : Nat → Option Ob) (o : Objs) (b : Nat) (Hs : Nat → HS) : Prop where
  tw : o[b]? = some (.ins 4 [(12, .lst [.obj (hp b 0), .obj (hp b 1)])])
  hd : ∀ h < 2, HAt o (hp b h) (Hs h)
  kp : ∀ j x, K j = some x → o[j]? = some x ∧ (j < b ∨ b + 9 ≤ j)
def setH (Hs : Nat → HS) (h : Nat) (x : HS) : Nat → HS := fun j => if j = h then x else Hs j
theorem setH_same (Hs : Nat → HS) (h : Nat) (x : HS) : setH Hs h x h = x := if_pos rfl
theorem setH_ne (Hs : Nat → HS) {h j : Nat} (x : HS) (n : j ≠ h) : setH Hs h x j = Hs j := if_neg n
section
variable {K : Nat → Option Ob} {o : Objs} {b : Nat} {Hs : Nat → HS} (T : TP K o b Hs)
include T
theorem TP.lt {h k : Nat} (hh : h < 2) (hk : k < 4) : hp b h + k < o.length := (List.getElem?_eq_some_iff.mp (T.hd h hh k hk)).1
theorem TP.set {h k : Nat} (hh : h < 2) (hk : k < 4) {x : HS} (he : ∀ k' < 4, k' ≠ k → cellOf x (hp b h) k' = cellOf (Hs h) (hp b h) k') : TP K (o.set (hp b h + k) (cellOf x (hp b h) k)) b (setH Hs h x) := by
  have lt := T.lt hh hk
  refine ⟨?_, fun j hj k' hk' => ?_, fun j y hj => ?_⟩
  · rw [List.getElem?_set_ne (by unfold hp; omega)]
    exact T.tw
  · by_cases c : j = h
    · subst c
      rw [setH_same]
      by_cases c2 : k' = k
      · subst c2
        exact List.getElem?_set_self lt
      · rw [List.getElem?_set_ne (by omega), he k' hk' c2]
        exact T.hd j hj k' hk'
    · rw [setH_ne _ _ c, List.getElem?_set_ne (by unfold hp; omega)]
      exact T.hd j hj k' hk'
  · obtain ⟨q1, q2⟩ := T.kp j y hj
    refine ⟨?_, q2⟩
    rw [List.getElem?_set_ne (by unfold hp; omega)]
    exact q1
theorem TP.ins {h : Nat} (hh : h < 2) : o[hp b h]? = some (.ins 3 (handF (Hs h) (hp b h))) := T.hd h hh 0 (by decide)
theorem TP.hands : fldM 4 12 (.obj b) o = .ok (.lst [.obj (hp b 0), .obj (hp b 1)]) o := fld_at T.tw rfl
theorem TP.own {h : Nat} (hh : h < 2) : fldM 3 0 (.obj (hp b h)) o = .ok (tabD (Hs h).t) o := fld_at (T.ins hh) rfl
theorem TP.lines {h : Nat} (hh : h < 2) : fldM 3 8 (.obj (hp b h)) o = .ok (.obj (hp b h + 1)) o := fld_at (T.ins hh) rfl
theorem TP.stamps {h : Nat} (hh : h < 2) : fldM 3 9 (.obj (hp b h)) o = .ok (.obj (hp b h + 2)) o := fld_at (T.ins hh) rfl
theorem TP.ticks {h : Nat} (hh : h < 2) : fldM 3 10 (.obj (hp b h)) o = .ok (.int ((Hs h).c : Nat)) o := fld_at (T.ins hh) rfl
theorem TP.letters {h : Nat} (hh : h < 2) : fldM 3 11 (.obj (hp b h)) o = .ok (.obj (hp b h + 3)) o := fld_at (T.ins hh) rfl
theorem TP.meth {k : Nat} (hk : k ≠ 12) : isO 4 k (.obj b) o = .ok .non o := isO_at T.tw (by
  have : (k == 12) = false := beq_eq_false_iff_ne.mpr hk
  simp [List.lookup, this])
theorem TP.der {h : Nat} (hh : h < 2) : derM (.obj (hp b h + 1)) o = .ok (.dic false (lnK (Hs h).L)) o ∧ derM (.obj (hp b h + 2)) o = .ok (.dic true (Hs h).S) o ∧ derM (.obj (hp b h + 3)) o = .ok (.lst (Hs h).q) o := ⟨der_at (T.hd h hh 1 (by decide)), der_at (T.hd h hh 2 (by decide)), der_at (T.hd h hh 3 (by decide))⟩
end
def lkL (n : Nat) : List (Nat × D) → Option D
  | [] => none
  | p :: r => if p.1 = n then some p.2 else lkL n r
theorem getD_lnK (n : Nat) : ∀ L : List (Nat × D), getD (.int (n : Nat)) (lnK L) = lkL n L
  | [] => rfl
  | p :: L => by
    show (if keyEq (.int (p.1 : Nat)) (.int (n : Nat)) then some p.2 else getD (.int (n : Nat)) (lnK L)) = _
    rw [keyEq_nat, getD_lnK n L]
    show _ = if p.1 = n then some p.2 else lkL n L
    by_cases c : p.1 = n <;> simp [c]
section
variable {K : Nat → Option Ob} {o : Objs} {b : Nat} {Hs : Nat → HS} (T : TP K o b Hs)
include T
end
end WB.C
namespace WB.C
open WB
def S_ (t : List Row) (s : List Nat) (p a l : Nat) : List (List Nat) := sol t s (s.length + 1 - p) p a l
def Kn (t : List Row) (s : List Nat) (ks : List (D × D)) (P : Nat → Nat → Nat → Prop) : Prop := ∀ p a l, P p a l → getD (kD p a l) ks = some (.bl (!(S_ t s p a l).isEmpty))
theorem Kn.mono {t : List Row} {s : List Nat} {ks : List (D × D)} {P Q : Nat → Nat → Nat → Prop} (h : Kn t s ks P) (k : ∀ p a l, Q p a l → P p a l) : Kn t s ks Q := fun p a l q => h p a l (k p a l q)
theorem Kn.put {t : List Row} {s : List Nat} {ks : List (D × D)} {P : Nat → Nat → Nat → Prop} (h : Kn t s ks P) (n a l : Nat) : Kn t s (putD (kD n a l) (.bl (!(S_ t s n a l).isEmpty)) ks) fun n' a' l' => P n' a' l' ∨ (n' = n ∧ a' = a ∧ l' = l) := by
  intro n' a' l' p
  by_cases c : n' = n ∧ a' = a ∧ l' = l
  · obtain ⟨rfl, rfl, rfl⟩ := c
    exact getD_put_self (kD_self ..) _
  · rw [getD_put_ne (kD_ne c)]
    exact h _ _ _ (p.resolve_right c)
section
variable {t : List Row} (ht : Tab t) {s : List Nat} (hs : s.length ≤ 1000) {o : Objs} {kb : Nat} {ks : List (D × D)} (hk : o[kb]? = some (.box (.dic true ks))) {p a l : Nat} (hp : p ≤ s.length)
include ht hs hk hp
end
end WB.C
namespace WB.C
open WB
def wordK (row : Bool) : List Nat := if row then [114, 111, 119] else [108, 105, 110, 101]
def keyL (row : Bool) (n : Nat) : D := .tup [.str (wordK row), .int (n : Nat)]
def stampD (c h : Nat) : D := .tup [.int (c : Nat), .int (h : Nat)]
def letterD (c h : Nat) (row : Bool) (n : Nat) (x : D) : D := .tup [stampD c h, keyL row n, x]
def putL (n : Nat) (d : D) (L : List (Nat × D)) : List (Nat × D) := if (L.any fun p => decide (p.1 = n)) = true then L.map (fun p => if p.1 = n then (p.1, d) else p) else L ++ [(n, d)]
theorem putD_lnK (n : Nat) (d : D) (L : List (Nat × D)) : putD (.int (n : Nat)) d (lnK L) = lnK (putL n d L) := by
  have any : ((lnK L).any fun p => keyEq p.1 (.int (n : Nat))) = L.any fun p => decide (p.1 = n) := by
    unfold lnK
    rw [List.any_map]
    congr 1
    funext p
    exact keyEq_nat p.1 n
  unfold putD putL
  rw [any]
  cases L.any fun p => decide (p.1 = n) with
  | true =>
    rw [if_pos rfl, if_pos rfl]
    unfold lnK
    rw [List.map_map, List.map_map]
    refine List.map_congr_left fun p _ => ?_
    show (if keyEq (.int (p.1 : Nat)) (.int (n : Nat)) = true then (D.int (p.1 : Nat), d) else (D.int (p.1 : Nat), p.2)) = (D.int ((if p.1 = n then (p.1, d) else p).1 : Nat), (if p.1 = n then (p.1, d) else p).2)
    rw [keyEq_nat]
    by_cases c : p.1 = n
    · rw [if_pos c, if_pos (decide_eq_true c)]
    · rw [if_neg c, if_neg (by simpa using c)]
  | false =>
    rw [if_neg (by simp), if_neg (by simp)]
    unfold lnK
    rw [List.map_append]
    rfl
section
variable {K : Nat → Option Ob} {o : Objs} {b : Nat} {Hs : Nat → HS} (T : TP K o b Hs)
include T
end
end WB.C
namespace WB.C
open WB
section
variable {K : Nat → Option Ob} {o : Objs} {b : Nat} {Hs : Nat → HS} (T : TP K o b Hs)
include T
inductive LnD (t : List Row) : D → Prop where
  | non : LnD t .non
  | str (s : List Nat) (h : LOk t s) : LnD t (.str s)
end
end WB.C
namespace WB.C
open WB
def es (t : List Row) : List Nat := lets t ++ [35]
theorem mem_es {t : List Row} {b : Nat} : b ∈ es t ↔ b = 35 ∨ b ∈ lets t := by
  unfold es
  rw [List.mem_append, List.mem_singleton, or_comm]
theorem es_len {t : List Row} (ht : Tab t) : (es t).length ≤ 11 := by
  have := ht.lets1
  unfold es
  rw [List.length_append]
  simp
  omega
section
variable {t : List Row} (ht : Tab t) {s : List Nat} (hs : s.length ≤ 100) (o : Objs)
include ht hs
end
end WB.C
namespace WB.C
open WB
structure Rq where
  w : List Nat
  p : Nat
  a : Nat
  l : Nat
def Rq.d (r : Rq) : D := .tup [.str r.w, .int (r.p : Nat), .str [r.a], .str [r.l]]
def Rq.v (t : List Row) (s : List Nat) (r : Rq) : List (List Nat) := (S_ t s r.p r.a r.l).map (r.w ++ ·)
structure Rq.ok (t : List Row) (s : List Nat) (r : Rq) : Prop where
  p : r.p ≤ s.length
  l : r.l = 35 ∨ r.l ∈ lets t
  ne : (S_ t s r.p r.a r.l).isEmpty = false
  w : r.w.length ≤ r.p
section
variable {t : List Row} (ht : Tab t) {s : List Nat} (hs : s.length ≤ 24) {o : Objs} {kb : Nat} {ks : List (D × D)} (hk : o[kb]? = some (.box (.dic true ks))) (K : Kn t s ks fun p a l => p ≤ s.length ∧ a ∈ es t ∧ l ∈ es t)
include ht hs hk K
end
end WB.C
namespace WB.C
open WB
def kB (n : Nat) (ls : List (List Nat)) : Nat → Option Ob := fun j => if j = n then some (.box (.lst (strsD ls))) else none
theorem kB_self (n : Nat) (ls : List (List Nat)) : kB n ls n = some (.box (.lst (strsD ls))) := if_pos rfl
theorem DP.kept {n b : Nat} {ls : List (List Nat)} {o : Objs} {now : D} {A B : List D} (h : DP (kB b ls) o n now A B) : o[b]? = some (.box (.lst (strsD ls))) := by
  obtain ⟨p, l, h1, h2, h3, h4, kp⟩ := h
  exact (kp b _ (kB_self b ls)).1
end WB.C
namespace WB.C
open WB
structure Lt where
  c : Nat
  h : Nat
  row : Bool
  n : Nat
  x : D
def Lt.d (l : Lt) : D := letterD l.c l.h l.row l.n l.x
abbrev Vl := Bool → Nat → Option ((Nat × Nat) × D)
def updV (v : Vl) (row : Bool) (n : Nat) (e : (Nat × Nat) × D) : Vl := fun r k => if r = row ∧ k = n then some e else v r k
def rowV (f : Nat → Option ((Nat × Nat) × D)) (i : Nat) (r : Row) : Row := match f i with
  | some (_, .str s) => { r with t := s }
  | _ => r
def tabV (t0 : List Row) (f : Nat → Option ((Nat × Nat) × D)) : List Row := t0.mapIdx (rowV f)
theorem tabV_len (t0 : List Row) (f : Nat → Option ((Nat × Nat) × D)) : (tabV t0 f).length = t0.length := by simp [tabV]
structure Val (t0 : List Row) (x : HS) (v : Vl) : Prop where
  S : ∀ row n, getD (keyL row n) x.S = (v row n).map fun e => stampD e.1.1 e.1.2
  L : ∀ n, lkL n x.L = (v false n).map (·.2)
  t : x.t = tabV t0 (v true)
theorem keyL_eq (r r' : Bool) (n n' : Nat) : keyEq (keyL r n) (keyL r' n') = decide (r = r' ∧ n = n') := by
  show ((wordK r == wordK r') && (((n : Int) == (n' : Int)) && true)) = _
  have e : ((n : Int) == (n' : Int)) = decide (n = n') := by
    rw [Bool.eq_iff_iff]
    simp
    omega
  rw [e]
  cases r <;> cases r' <;> simp [wordK]
theorem lkL_put (k n : Nat) (d : D) (L : List (Nat × D)) : lkL k (putL n d L) = if k = n then some d else lkL k L := by
  have : lkL k (putL n d L) = getD (.int (k : Nat)) (lnK (putL n d L)) := (getD_lnK k _).symm
  rw [this, ← putD_lnK]
  by_cases c : k = n
  · subst c
    rw [if_pos rfl]
    exact getD_put_self (by rw [keyEq_nat]; simp) _
  · rw [if_neg c, getD_put_ne (by rw [keyEq_nat]; simpa using fun z => c z.symm), getD_lnK]
theorem setRow_set {t : List Row} {n : Nat} (hn : n < t.length) (s : List Nat) : setRow t n s = t.set n { t.getD n row0 with t := s } := by
  rw [List.set_eq_take_append_cons_drop, if_pos hn]
  unfold setRow
  rw [List.append_assoc]
  rfl
theorem tab_put {t0 : List Row} {f : Nat → Option ((Nat × Nat) × D)} {n : Nat} (hn : n < t0.length) (e : Nat × Nat) (s : List Nat) : setRow (tabV t0 f) n s = tabV t0 (fun i => if i = n then some (e, .str s) else f i) := by
  have hn' : n < (tabV t0 f).length := by rw [tabV_len]; exact hn
  rw [setRow_set hn']
  apply List.ext_getElem?
  intro i
  have g : ∀ F : Nat → Option ((Nat × Nat) × D), (tabV t0 F)[i]? = t0[i]?.map (rowV F i) := fun F => by
    unfold tabV
    rw [List.getElem?_mapIdx]
  rw [g]
  by_cases c : i = n
  · subst c
    rw [List.getElem?_set_self hn', List.getElem?_eq_getElem hn]
    have : (tabV t0 f).getD i row0 = rowV f i t0[i] := by
      rw [List.getD_eq_getElem?_getD, g f, List.getElem?_eq_getElem hn]
      rfl
    rw [this]
    show some _ = some _
    congr 1
    have e2 : rowV (fun j => if j = i then some (e, .str s) else f j) i t0[i] = { t0[i] with t := s } := by
      unfold rowV
      simp
    rw [e2]
    unfold rowV
    split <;> rfl
  · rw [List.getElem?_set_ne (fun z => c z.symm), g f]
    cases t0[i]? with
    | none => rfl
    | some r =>
      show some _ = some _
      congr 1
      unfold rowV
      simp only [if_neg c]
def Lok (t0 : List Row) (l : Lt) : Prop := 1 ≤ l.c ∧ if l.row = true then l.n < t0.length ∧ ∃ s, l.x = .str s ∧ txOk s else l.n < 10 ∧ flatD l.x = true
def putHS (x : HS) (l : Lt) : HS := { x with S := putD (keyL l.row l.n) (stampD l.c l.h) x.S, L := if l.row = true then x.L else putL l.n l.x x.L, t := if l.row = true then (match l.x with | .str s => setRow x.t l.n s | _ => x.t) else x.t }
theorem Val.put {t0 : List Row} {x : HS} {v : Vl} (V : Val t0 x v) {l : Lt} (hl : Lok t0 l) : Val t0 (putHS x l) (updV v l.row l.n ((l.c, l.h), l.x)) := by
  refine ⟨fun row n => ?_, fun n => ?_, ?_⟩
  · show getD (keyL row n) (putD (keyL l.row l.n) (stampD l.c l.h) x.S) = _
    unfold updV
    by_cases c : row = l.row ∧ n = l.n
    · rw [if_pos c, c.1, c.2]
      exact getD_put_self (by rw [keyL_eq]; simp) _
    · rw [if_neg c, getD_put_ne (by rw [keyL_eq]; exact decide_eq_false fun z => c ⟨z.1.symm, z.2.symm⟩)]
      exact V.S row n
  · show lkL n (if l.row = true then x.L else putL l.n l.x x.L) = _
    unfold updV
    cases hr : l.row with
    | true =>
      rw [if_pos rfl, if_neg (by simp)]
      exact V.L n
    | false =>
      rw [if_neg (by simp), lkL_put]
      by_cases c : n = l.n
      · rw [if_pos c, if_pos ⟨rfl, c⟩]
        rfl
      · rw [if_neg c, if_neg fun z => c z.2]
        exact V.L n
  · show (if l.row = true then (match l.x with | .str s => setRow x.t l.n s | _ => x.t) else x.t) = _
    cases hr : l.row with
    | true =>
      have hl2 := hl.2
      rw [hr, if_pos rfl] at hl2
      obtain ⟨hn, s, hx, _⟩ := hl2
      rw [if_pos rfl, hx]
      dsimp only
      rw [V.t, tab_put hn (l.c, l.h) s]
      congr 1
      funext i
      show _ = if _ then _ else _
      by_cases c : i = l.n <;> simp [c]
    | false =>
      rw [if_neg (by simp), V.t]
      have : updV v false l.n ((l.c, l.h), l.x) true = v true := by
        funext i
        unfold updV
        rw [if_neg (by simp)]
      rw [this]
section
variable {K : Nat → Option Ob} {o : Objs} {b : Nat} {Hs : Nat → HS} (T : TP K o b Hs)
include T
end
end WB.C
namespace WB.C
open WB
inductive Grow : List (List Nat) → List (List Nat) → Prop where
  | nil : Grow [] []
  | cons {a b : List Nat} {A B : List (List Nat)} (h : a.length ≤ b.length) (t : Grow A B) : Grow (a :: A) (b :: B)
section
variable {t : List Row} {i : Nat} {x : List Nat} (hi : i < t.length)
include hi
variable (hx : (t.getD i row0).t.length < x.length ∨ ((t.getD i row0).t.length = x.length ∧ (t.getD i row0).t ≠ x))
include hx
end
end WB.C
namespace WB.C
open WB
def txX (t : List Nat) : Prop := txOk t ∧ t ≠ [120, 120, 120]
structure RowX (S : List Nat) (r : Row) : Prop where
  a : nbOk S r.a
  l : r.l ∈ S
  b : nbOk S r.b
  t : txX r.t
structure TabX (S : List Nat) (most : Nat) (t : List Row) : Prop where
  s2 : 2 ≤ S.length
  s3 : S.length ≤ 3
  nd : S.Nodup
  gr : ∀ c ∈ S, isGr c = true
  rows : ∀ r ∈ t, RowX S r
  bare : ∀ l ∈ S, ∃ r ∈ t, r.l = l ∧ r.a = none ∧ r.b = none
  lo : S.length ≤ t.length
  hi : t.length ≤ most
theorem TabX.ok {S : List Nat} {most : Nat} {t : List Row} (h : TabX S most t) : TabOk S most t := ⟨h.s2, h.s3, h.nd, h.gr, fun r hr => ⟨(h.rows r hr).a, (h.rows r hr).l, (h.rows r hr).b, (h.rows r hr).t.1⟩, h.bare, h.lo, h.hi⟩
end WB.C
namespace WB.C
open WB
end WB.C
namespace WB.C
open WB
section
variable {t : List Row} (ht : Tab t) {s : List Nat} (hs : s.length ≤ 24) {o : Objs} {kb : Nat} {ks : List (D × D)} (hk : o[kb]? = some (.box (.dic true ks))) (K : Kn t s ks fun p a l => p ≤ s.length ∧ a ∈ es t ∧ l ∈ es t)
include ht hs hk K
end
end WB.C
namespace WB.C
open WB
def Hn (t : List Row) (s : List Nat) (ks : List (D × D)) (P : Nat → Nat → Nat → Prop) : Prop := ∀ p a l, P p a l → getD (kD p a l) ks = some (.int ((S_ t s p a l).length : Nat))
theorem Hn.mono {t : List Row} {s : List Nat} {ks : List (D × D)} {P Q : Nat → Nat → Nat → Prop} (h : Hn t s ks P) (k : ∀ p a l, Q p a l → P p a l) : Hn t s ks Q := fun p a l q => h p a l (k p a l q)
theorem Hn.put {t : List Row} {s : List Nat} {ks : List (D × D)} {P : Nat → Nat → Nat → Prop} (h : Hn t s ks P) (n a l : Nat) : Hn t s (putD (kD n a l) (.int ((S_ t s n a l).length : Nat)) ks) fun n' a' l' => P n' a' l' ∨ (n' = n ∧ a' = a ∧ l' = l) := by
  intro n' a' l' p
  by_cases c : n' = n ∧ a' = a ∧ l' = l
  · obtain ⟨rfl, rfl, rfl⟩ := c
    exact getD_put_self (kD_self ..) _
  · rw [getD_put_ne (kD_ne c)]
    exact h _ _ _ (p.resolve_right c)
section
variable {t : List Row} (ht : Tab t) {s : List Nat} (hs : s.length ≤ 24) (o : Objs)
include ht hs
end
end WB.C
namespace WB.C
open WB
section
variable {t : List Row} (ht : Tab t) {s : List Nat} (hs : s.length ≤ 24) (o : Objs)
include ht hs
end
theorem sum_ints (l : List Nat) : blt1M .sum (.lst (intsD l)) = pure (.int (l.sum : Nat)) := by
  have e : ∀ l : List Nat, intsOf (intsD l) = some (l.map fun (n : Nat) => (n : Int)) := fun l => by
    unfold intsD
    induction l with
    | nil => rfl
    | cons a r ih => simp [intsOf] at ih ⊢; rw [ih]
  have e2 : ∀ l : List Nat, (l.map fun (n : Nat) => (n : Int)).sum = ((l.sum : Nat) : Int) := fun l => by
    induction l with
    | nil => rfl
    | cons a r ih => rw [List.map_cons, List.sum_cons, List.sum_cons, ih]; omega
  show sumM (.lst (intsD l)) = _
  unfold sumM
  dsimp only
  rw [e]
  dsimp only
  rw [e2]
end WB.C
namespace WB.C
open WB
end WB.C
namespace WB.C
open WB
def cp : List Nat → List Nat → Nat
  | a :: x, b :: y => if a = b then cp x y + 1 else 0
  | _, _ => 0
inductive Rch (t : List Row) (s : List Nat) : Nat → Nat → Nat → Prop where
  | start {l : Nat} (h : l ∈ lets t) : Rch t s 0 35 l
  | step {p a l b : Nat} (h : Rch t s p a l) (hb : b ∈ lets t) (m : cp (tx t a l b) (s.drop p) = (tx t a l b).length) : Rch t s (p + (tx t a l b).length) l b
end WB.C
namespace WB.C
open WB
section
variable {t : List Row} {s : List Nat} (hs : s.length ≤ 1000) {p a l : Nat} (hp : p ≤ s.length) {x : List Nat} (hx : x.length ≤ 1000) (o : Objs)
include hs hp hx
end
end WB.C
namespace WB.C
open WB
def qD (q : Nat × Nat × Nat) : D := kD q.1 q.2.1 q.2.2
def kidF (t : List Row) (s : List Nat) (p a l b : Nat) : List (Nat × Nat × Nat) := if cp (tx t a l b) (s.drop p) = (tx t a l b).length ∧ b ≠ 35 then [(p + (tx t a l b).length, l, b)] else []
section
variable {t : List Row} (ht : Tab t) {s : List Nat} (hs : s.length ≤ 24) {p a l : Nat} (hp : p ≤ s.length) (hl : l ∈ lets t) (o : Objs)
include ht hs hp hl
end
end WB.C
namespace WB.C
open WB
def mB (t : List Row) (s : List Nat) (p a l : Nat) (B : Nat) (bs : List Nat) : Nat := bs.foldl (fun B b => max B (p + cp (tx t a l b) (s.drop p))) B
theorem mB_ok (t : List Row) (s : List Nat) (p a l : Nat) : ∀ (bs : List Nat) (B : Nat), B ≤ mB t s p a l B bs ∧ (∀ b ∈ bs, p + cp (tx t a l b) (s.drop p) ≤ mB t s p a l B bs) ∧ (mB t s p a l B bs = B ∨ ∃ b ∈ bs, mB t s p a l B bs = p + cp (tx t a l b) (s.drop p))
  | [], B => ⟨Nat.le_refl _, by simp, .inl rfl⟩
  | c :: bs, B => by
    obtain ⟨h1, h2, h3⟩ := mB_ok t s p a l bs (max B (p + cp (tx t a l c) (s.drop p)))
    have e : mB t s p a l B (c :: bs) = mB t s p a l (max B (p + cp (tx t a l c) (s.drop p))) bs := rfl
    rw [e]
    refine ⟨by omega, fun b hb => ?_, ?_⟩
    · rcases List.mem_cons.mp hb with rfl | hb
      · omega
      · exact h2 b hb
    · rcases h3 with h3 | ⟨b, hb, h3⟩
      · by_cases c' : B ≤ p + cp (tx t a l c) (s.drop p)
        · exact .inr ⟨c, by simp, by rw [h3, Nat.max_eq_right c']⟩
        · exact .inl (by rw [h3, Nat.max_eq_left (by omega)])
      · exact .inr ⟨b, List.mem_cons_of_mem _ hb, h3⟩
section
variable {t : List Row} (ht : Tab t) {s : List Nat} (hs : s.length ≤ 24) {p a l : Nat} (hp : p ≤ s.length) (hl : l ∈ lets t) (o : Objs)
include ht hs hp hl
end
end WB.C
namespace WB.C
open WB
abbrev Q3 := Nat × Nat × Nat
def Sn (ks : List (D × D)) (V : List Q3) : Prop := ∀ q : Q3, (getD (qD q) ks).isSome = decide (q ∈ V)
theorem Sn.put {ks : List (D × D)} {V : List Q3} (h : Sn ks V) (q : Q3) (v : D) : Sn (putD (qD q) v ks) (q :: V) := by
  intro r
  by_cases c : r = q
  · subst c
    rw [show getD (qD r) (putD (qD r) v ks) = some v from getD_put_self (kD_self ..) _]
    simp
  · have ne : keyEq (qD q) (qD r) = false := kD_ne fun z => c (Prod.ext z.1 (Prod.ext z.2.1 z.2.2))
    rw [getD_put_ne ne, h r]
    simp [c]
section
variable {t : List Row} (ht : Tab t) {s : List Nat} (hs : s.length ≤ 24) (o : Objs)
include ht hs
end
end WB.C
namespace WB.C
open WB
structure FI (t : List Row) (s : List Nat) (V Q : List Q3) (B : Nat) : Prop where
  rV : ∀ q ∈ V, Rch t s q.1 q.2.1 q.2.2
  rQ : ∀ q ∈ Q, Rch t s q.1 q.2.1 q.2.2
  st : ∀ l ∈ lets t, (0, 35, l) ∈ V ∨ (0, 35, l) ∈ Q
  kd : ∀ q ∈ V, ∀ b ∈ es t, ∀ k ∈ kidF t s q.1 q.2.1 q.2.2 b, k ∈ V ∨ k ∈ Q
  up : ∀ q ∈ V, ∀ b ∈ es t, q.1 + cp (tx t q.2.1 q.2.2 b) (s.drop q.1) ≤ B
  at_ : B = 0 ∨ ∃ q ∈ V, ∃ b ∈ es t, B = q.1 + cp (tx t q.2.1 q.2.2 b) (s.drop q.1)
  nd : V.Nodup
theorem kid_rch {t : List Row} {s : List Nat} {q k : Q3} {b : Nat} (h : Rch t s q.1 q.2.1 q.2.2) (hb : b ∈ es t) (hk : k ∈ kidF t s q.1 q.2.1 q.2.2 b) : Rch t s k.1 k.2.1 k.2.2 := by
  unfold kidF at hk
  split at hk
  · rename_i c
    rw [List.mem_singleton.mp hk]
    exact .step h ((mem_es.mp hb).resolve_left c.2) c.1
  · cases hk
theorem FI.old {t : List Row} {s : List Nat} {V Q : List Q3} {B : Nat} {q : Q3} (h : FI t s V (Q ++ [q]) B) (hq : q ∈ V) : FI t s V Q B := by
  have mv : ∀ k, k ∈ V ∨ k ∈ Q ++ [q] → k ∈ V ∨ k ∈ Q := fun k z => by
    rcases z with z | z
    · exact .inl z
    · rcases List.mem_append.mp z with z | z
      · exact .inr z
      · rw [List.mem_singleton.mp z]; exact .inl hq
  exact ⟨h.rV, fun k hk => h.rQ k (List.mem_append_left _ hk), fun l hl => mv _ (h.st l hl), fun r hr b hb k hk => mv k (h.kd r hr b hb k hk), h.up, h.at_, h.nd⟩
theorem FI.new {t : List Row} {s : List Nat} {V Q : List Q3} {B : Nat} {q : Q3} (h : FI t s V (Q ++ [q]) B) (hq : q ∉ V) : FI t s (q :: V) (Q ++ (es t).flatMap (kidF t s q.1 q.2.1 q.2.2)) (mB t s q.1 q.2.1 q.2.2 B (es t)) := by
  obtain ⟨b1, b2, b3⟩ := mB_ok t s q.1 q.2.1 q.2.2 (es t) B
  have rq := h.rQ q (by simp)
  have mv : ∀ k, k ∈ V ∨ k ∈ Q ++ [q] → k ∈ q :: V ∨ k ∈ Q ++ (es t).flatMap (kidF t s q.1 q.2.1 q.2.2) := fun k z => by
    rcases z with z | z
    · exact .inl (List.mem_cons_of_mem _ z)
    · rcases List.mem_append.mp z with z | z
      · exact .inr (List.mem_append_left _ z)
      · rw [List.mem_singleton.mp z]; exact .inl (by simp)
  refine ⟨fun r hr => ?_, fun r hr => ?_, fun l hl => mv _ (h.st l hl), fun r hr b hb k hk => ?_, fun r hr b hb => ?_, ?_, List.nodup_cons.mpr ⟨hq, h.nd⟩⟩
  · rcases List.mem_cons.mp hr with rfl | hr
    · exact rq
    · exact h.rV r hr
  · rcases List.mem_append.mp hr with hr | hr
    · exact h.rQ r (List.mem_append_left _ hr)
    · obtain ⟨b, hb, hk⟩ := List.mem_flatMap.mp hr
      exact kid_rch rq hb hk
  · rcases List.mem_cons.mp hr with rfl | hr
    · exact .inr (List.mem_append_right _ (List.mem_flatMap.mpr ⟨b, hb, hk⟩))
    · exact mv k (h.kd r hr b hb k hk)
  · rcases List.mem_cons.mp hr with rfl | hr
    · exact b2 b hb
    · exact Nat.le_trans (h.up r hr b hb) b1
  · rcases b3 with b3 | ⟨b, hb, e⟩
    · rw [b3]
      rcases h.at_ with z | ⟨r, hr, z⟩
      · exact .inl z
      · exact .inr ⟨r, List.mem_cons_of_mem _ hr, z⟩
    · exact .inr ⟨q, by simp, b, hb, e⟩
theorem FI.all {t : List Row} (ht : Tab t) {s : List Nat} {V : List Q3} {B : Nat} (h : FI t s V [] B) : ∀ {p a l : Nat}, Rch t s p a l → (p, a, l) ∈ V
  | _, _, _, .start hl => (h.st _ hl).resolve_right (by simp)
  | _, _, _, .step (p := p) (a := a) (l := l) (b := b) r hb m => by
    have q := h.all ht r
    refine (h.kd _ q b (mem_es.mpr (.inr hb)) _ ?_).resolve_right (by simp)
    unfold kidF
    rw [if_pos ⟨m, no35 ht hb⟩]
    simp
end WB.C
namespace WB.C
open WB
theorem nodup_q {α : Type} [DecidableEq α] : ∀ {l Z : List α}, l.Nodup → (∀ x ∈ l, x ∈ Z) → l.length ≤ Z.length
  | [], Z, _, _ => by simp
  | a :: l, Z, h, k => by
    obtain ⟨h1, h2⟩ := List.nodup_cons.mp h
    have ha := k a (by simp)
    have := nodup_q (l := l) (Z := Z.erase a) h2 fun x hx => by
      have ne : x ≠ a := fun z => h1 (by rw [← z]; exact hx)
      exact (List.mem_erase_of_ne ne).mpr (k x (List.mem_cons_of_mem _ hx))
    rw [List.length_erase_of_mem ha] at this
    have := List.length_pos_of_mem ha
    rw [List.length_cons]
    omega
def uni (t : List Row) (s : List Nat) : List Q3 := (List.range (s.length + 1)).flatMap fun p => (es t).flatMap fun a => (lets t).map fun l => (p, a, l)
section
variable {t : List Row} (ht : Tab t) {s : List Nat} (hs : s.length ≤ 24) (o : Objs)
include ht hs
end
end WB.C
namespace WB.C
open WB
end WB.C
namespace WB.C
open WB
theorem mem_longer {t : List Row} {ws : List (List Nat)} {v : List Nat} : v ∈ longer t ws ↔ ∃ w ∈ ws, ∃ c ∈ lets t, v = w ++ [c] := by
  unfold longer
  rw [List.mem_flatMap]
  constructor
  · rintro ⟨w, hw, h⟩
    obtain ⟨c, hc, rfl⟩ := List.mem_map.mp h
    exact ⟨w, hw, c, hc, rfl⟩
  · rintro ⟨w, hw, c, hc, rfl⟩
    exact ⟨w, hw, List.mem_map.mpr ⟨c, hc, rfl⟩⟩
theorem longer_nodup {t : List Row} : ∀ {ws : List (List Nat)}, ws.Nodup → (longer t ws).Nodup
  | [], _ => List.nodup_nil
  | w :: ws, h => by
    obtain ⟨h1, h2⟩ := List.nodup_cons.mp h
    show ((lets t).map (fun c => w ++ [c]) ++ longer t ws).Nodup
    refine List.nodup_append.mpr ⟨?_, longer_nodup h2, ?_⟩
    · refine List.Pairwise.map _ (fun a b q e => q ?_) (lets_nodup t)
      have := List.append_cancel_left e
      injection this
    · intro a ha b hb e
      subst e
      obtain ⟨c, _, rfl⟩ := List.mem_map.mp ha
      obtain ⟨w', hw', c', _, e⟩ := mem_longer.mp hb
      have := List.append_inj_left' e rfl
      subst this
      exact h1 hw'
theorem wlT_nodup (t : List Row) : ∀ n, (wlT t n).Nodup
  | 0 => by simp [wlT]
  | n + 1 => by rw [wlT]; exact longer_nodup (wlT_nodup t n)
inductive MapS (g : D → Objs → Res D) : List D → Objs → List D → Objs → Prop where
  | nil (o : Objs) : MapS g [] o [] o
  | cons {x y : D} {xs ys : List D} {o o1 o2 : Objs} (h : g x o = .ok y o1) (t : MapS g xs o1 ys o2) : MapS g (x :: xs) o (y :: ys) o2
end WB.C
namespace WB.C
open WB
def txY (t : List Nat) : Prop := txOk t ∧ (t.length = 3 → t.getD 0 0 ≠ t.getD 1 0)
structure RowY (S : List Nat) (r : Row) : Prop where
  a : nbOk S r.a
  l : r.l ∈ S
  b : nbOk S r.b
  t : txY r.t
structure TabY (S : List Nat) (most : Nat) (t : List Row) : Prop where
  s2 : 2 ≤ S.length
  s3 : S.length ≤ 3
  nd : S.Nodup
  gr : ∀ c ∈ S, isGr c = true
  rows : ∀ r ∈ t, RowY S r
  bare : ∀ l ∈ S, ∃ r ∈ t, r.l = l ∧ r.a = none ∧ r.b = none
  lo : S.length ≤ t.length
  hi : t.length ≤ most
theorem TabY.ok {S : List Nat} {most : Nat} {t : List Row} (h : TabY S most t) : TabOk S most t := ⟨h.s2, h.s3, h.nd, h.gr, fun r hr => ⟨(h.rows r hr).a, (h.rows r hr).l, (h.rows r hr).b, (h.rows r hr).t.1⟩, h.bare, h.lo, h.hi⟩
theorem abc_neY : ∀ p : Nat, p < 23 → (abc.drop p).getD 0 0 ≠ (abc.drop p).getD 1 0 := by decide
theorem conv_okY {small : List Nat} (hs : ∀ c ∈ small, isSm c = true) (hl : 4 ≤ small.length) (hne : small.getD 0 0 ≠ small.getD 1 0) {t : List Nat} (ht : t ∈ base10) : txY (t.map (conv small)) := by
  refine ⟨conv_ok hs hl ht, fun e => ?_⟩
  rw [List.length_map] at e
  have : t = [97, 98, 99] := by
    have : ∀ t ∈ base10, t.length = 3 → t = [97, 98, 99] := by decide
    exact this t ht e
  subst this
  exact hne
theorem ok_tableY (ns : List Int) (at_ : Int) (most : Nat) (h : 0 ≤ at_) (h3 : 3 ≤ most) (h10 : most ≤ 1000) : ∃ t, d__law_table [sc ns, .int at_, .int most] = pure (tabD t) ∧ TabY (someS ns at_) most t := by
  unfold d__law_table c__law_table
  rw [den3]
  have p7 := pick_lt ns (at_ + 7) 3 (by decide)
  have p8 := pick_lt ns (at_ + 8) 23 (by decide)
  obtain ⟨s2, s3, snd, sgr⟩ := someS_ok ns at_
  have i7 : idxM (.lst [.str [66, 67, 65], .str [68, 69, 70], .str [71, 72, 66]]) (.int (pick ns (at_ + 7) 3)) = pure (.str (three.getD (pick ns (at_ + 7) 3).toNat [])) := by
    have : pick ns (at_ + 7) 3 = 0 ∨ pick ns (at_ + 7) 3 = 1 ∨ pick ns (at_ + 7) 3 = 2 := by omega
    rcases this with e | e | e <;> rw [e] <;> rfl
  have l3 : (three.getD (pick ns (at_ + 7) 3).toNat []).length = 3 := by
    have : (pick ns (at_ + 7) 3).toNat = 0 ∨ (pick ns (at_ + 7) 3).toNat = 1 ∨ (pick ns (at_ + 7) 3).toNat = 2 := by omega
    rcases this with e | e | e <;> rw [e] <;> rfl
  have c7 : cutM (.str (three.getD (pick ns (at_ + 7) 3).toNat [])) none (some (2 + b2n (pick ns at_ 3 == 0))) = pure (.str (someS ns at_)) := by
    rw [c_str (by rw [l3]; decide)]
    have e : (2 + b2n (pick ns at_ 3 == 0)) = (((if pick ns at_ 3 = 0 then 3 else 2 : Nat)) : Int) := by
      by_cases z : pick ns at_ 3 = 0 <;> simp [z, b2n]
    rw [e, cut_to _ _ (by rw [l3]; split <;> decide)]
    rfl
  have c8 : cutM (.str [97, 98, 99, 100, 101, 102, 103, 104, 105, 106, 107, 108, 109, 110, 111, 112, 113, 114, 115, 116, 117, 118, 119, 120, 121, 122]) (some (pick ns (at_ + 8) 23)) none = pure (.str (abc.drop (pick ns (at_ + 8) 23).toNat)) := by
    rw [c_str (by decide)]
    have e : pick ns (at_ + 8) 23 = ((pick ns (at_ + 8) 23).toNat : Int) := by omega
    conv => lhs; rw [e]
    rw [cut_from _ _ (by show _ ≤ 26; omega)]
    rfl
  generalize hS : someS ns at_ = S at *
  generalize three.getD (pick ns (at_ + 7) 3).toNat [] = X3 at *
  have hsm : ∀ c ∈ abc.drop (pick ns (at_ + 8) 23).toNat, isSm c = true := fun c hc => abc_sm c (List.mem_of_mem_drop hc)
  have hsl : 4 ≤ (abc.drop (pick ns (at_ + 8) 23).toNat).length ∧ (abc.drop (pick ns (at_ + 8) 23).toNat).length ≤ 26 := by
    rw [List.length_drop]
    show 4 ≤ 26 - _ ∧ 26 - _ ≤ 26
    omega
  have hne : (abc.drop (pick ns (at_ + 8) 23).toNat).getD 0 0 ≠ (abc.drop (pick ns (at_ + 8) 23).toNat).getD 1 0 := abc_neY _ (by omega)
  generalize abc.drop (pick ns (at_ + 8) 23).toNat = small at *
  simp [List.replicate, ok_pick ns (at_ + 7) 3 (by omega) (by decide), ok_pick ns at_ 3 h (by decide), ok_pick ns (at_ + 8) 23 (by omega) (by decide), lstM_ok, i7, o_eq (eq_int _ _), c7, c8]
  refine seq_for (fun z => ∃ t, L1 endM z = pure (tabD t) ∧ TabY S most t) (for_inv (I := fun k m => ∃ x6 tx, m = tslots ns at_ most S small (some (.lst (tx.map D.str))) x6 none none none none none none none none ∧ tx.length = k ∧ ∀ t ∈ tx, txY t) ⟨none, [], rfl, rfl, by simp⟩ ?_) ?_
  · rintro i x m hx ⟨x6, tx, rfl, hk, ht⟩
    have hb : ∃ t ∈ base10, x = .str t := by
      have : x ∈ base10.map D.str := List.mem_of_getElem? hx
      obtain ⟨t, h1, h2⟩ := List.mem_map.mp this
      exact ⟨t, h1, h2.symm⟩
    obtain ⟨t, hb, rfl⟩ := hb
    have i10 : i < 10 := (List.getElem?_eq_some_iff.mp hx).1
    refine ⟨tslots ns at_ most S small (some (.lst ((tx ++ [t.map (conv small)]).map D.str))) (some (.str t)) none none none none none none none none, ?_, some (.str t), tx ++ [t.map (conv small)], rfl, by simp [hk], ?_⟩
    · rw [bind_name, pure_bnd, x_cons, x_app, text_turn (small := small) (t := t) rfl rfl hsl hb (by simp [tslots])]
      simp only [tslots, List.set_cons_succ, List.set_cons_zero, List.getElem?_cons_succ, List.getElem?_cons_zero, getS_some, L2_pure]
      rw [appS_lst _ _ _ (by simp [hk]; exact Nat.lt_of_lt_of_le i10 (by decide))]
      simp
    · intro t' h'
      rcases List.mem_append.mp h' with h' | h'
      · exact ht t' h'
      · rw [List.mem_singleton.mp h']
        exact conv_okY hsm hsl.1 hne hb
  rintro m1 ⟨x6, tx, rfl, hk, ht⟩
  have hk10 : tx.length = 10 := hk
  have textAt : ∀ p : Int, 0 ≤ p → p < 10 → ∃ t, idxM (.lst (tx.map D.str)) (.int p) = pure (.str t) ∧ txY t := fun p h0 h1 => by
    have l : p.toNat < tx.length := by omega
    refine ⟨tx[p.toNat], i_lst ?_, ht _ (List.getElem_mem l)⟩
    rw [at_int _ p h0 (by rw [List.length_map, hk10]; exact h1)]
    simp
  simp only [x_cons, x_setO, v_lst, v_anil, L1_pure, lstM_nil, setOM_lst, tslots, List.set_cons_succ, List.set_cons_zero, seq_next, x_for, v_ienum, v_slot, List.getElem?_cons_succ, List.getElem?_cons_zero, getS_some, enuM_str]
  refine seq_for (fun z => ∃ t, L1 endM z = pure (tabD t) ∧ TabY S most t) (for_inv (I := fun k m => ∃ x8 x9, ∃ rows : List Row, m = tslots ns at_ most S small (some (.lst (tx.map D.str))) x6 (some (.lst (rows.map rowD))) x8 x9 none none none none none ∧ rows.map (·.l) = S.take k ∧ ∀ r ∈ rows, txY r.t ∧ r.a = none ∧ r.b = none) ⟨none, none, [], rfl, rfl, by simp⟩ ?_) ?_
  · rintro i x m hx ⟨x8, x9, rows, rfl, hl, hr⟩
    obtain ⟨y, hy, rfl⟩ := enum_at hx
    have hy2 : ∃ c, S[i]? = some c ∧ y = .str [c] := by
      unfold signs at hy
      rw [List.getElem?_map] at hy
      cases e : S[i]? with
      | none => rw [e] at hy; cases hy
      | some c => rw [e] at hy; cases hy; exact ⟨c, rfl, rfl⟩
    obtain ⟨c, hc, rfl⟩ := hy2
    have il : i < S.length := (List.getElem?_eq_some_iff.mp hc).1
    have pk := pick_lt ns (at_ + 1 + ((0 + i : Nat) : Int)) 10 (by decide)
    obtain ⟨t, et, okt⟩ := textAt _ pk.1 pk.2
    have lr : rows.length = i := by
      have := congrArg List.length hl
      simp at this
      omega
    refine ⟨tslots ns at_ most S small (some (.lst (tx.map D.str))) x6 (some (.lst ((rows ++ [Row.mk none c none t]).map rowD))) (some (.int ((0 + i : Nat) : Int))) (some (.str [c])) none none none none none, ?_, _, _, rows ++ [Row.mk none c none t], rfl, ?_, ?_⟩
    · have eb : bindD (.many [8, 9]) (.tup [.int ((0 + i : Nat) : Int), .str [c]]) (tslots ns at_ most S small (some (.lst (tx.map D.str))) x6 (some (.lst (rows.map rowD))) x8 x9 none none none none none) = pure (tslots ns at_ most S small (some (.lst (tx.map D.str))) x6 (some (.lst (rows.map rowD))) (some (.int ((0 + i : Nat) : Int))) (some (.str [c])) none none none none none) := rfl
      rw [eb, pure_bnd]
      simp only [tslots, x_cons, x_app, v_tup, v_acons, v_anil, v_cst, v_slot, v_idx, v_call, v_bin, List.getElem?_cons_succ, List.getElem?_cons_zero, getS_some, L2_pure, L1_pure, o_addI, consM_pure, tab0]
      rw [ok_pick ns _ 10 (by omega) (by decide)]
      simp only [L2_pure, et, consM_pure, L1_pure]
      rw [tupM_ok (by simp), L2_pure, appS_lst _ _ _ (by simp [lr]; exact Nat.lt_of_lt_of_le il (Nat.le_trans s3 (by decide)))]
      simp [rowD, nbD]
    · rw [List.map_append, hl, List.take_succ, hc]
      rfl
    · intro r h'
      rcases List.mem_append.mp h' with h' | h'
      · exact hr r h'
      · rw [List.mem_singleton.mp h']
        exact ⟨okt, rfl, rfl⟩
  rintro m2 ⟨x8, x9, rows0, rfl, hl, hr⟩
  have eS : rows0.map (·.l) = S := by
    rw [hl, enum_length]
    simp [signs]
  have lS : rows0.length = S.length := by
    have := congrArg List.length eS
    simpa using this
  have pn := pick_lt ns (at_ + 5) ((most : Int) + 1 - S.length) (by omega)
  have eI : evI (tab [d__law_pick]) (.irng [.call 0 [.slot 0, .bin .add (.slot 1) (.cst (.int 5)), .bin .sub (.bin .add (.slot 2) (.cst (.int 1))) (.blt .len [.slot 3])]]) (tslots ns at_ most S small (some (.lst (tx.map D.str))) x6 (some (.lst (rows0.map rowD))) x8 x9 none none none none none) = pure (rngD 0 1 (pick ns (at_ + 5) ((most : Int) + 1 - S.length)).toNat) := by
    simp only [tslots, v_irng, v_acons, v_anil, v_call, v_slot, v_bin, v_cst, v_blt, List.getElem?_cons_succ, List.getElem?_cons_zero, getS_some, L2_pure, L1_pure, o_addI, o_subI, consM_pure, tab0, b_blt1]
    rw [b_lenX _ (Nat.le_trans s3 (by decide))]
    simp only [L2_pure, L1_pure, o_subI, consM_pure]
    rw [ok_pick ns _ _ (by omega) (by omega)]
    simp only [L2_pure, L1_pure, consM_pure]
    have ib : inB (pick ns (at_ + 5) ((most : Int) + 1 - S.length)) = true := by unfold inB; simp; omega
    show (if inB _ = true then _ else _) = _
    rw [if_pos ib]
  simp only [x_cons, x_for]
  rw [eI, L1_pure]
  refine seq_for (fun z => ∃ t, L1 endM z = pure (tabD t) ∧ TabY S most t) (for_inv (I := fun k m => ∃ x8 x10 x11 x12 x13 x14, ∃ rows : List Row, m = tslots ns at_ most S small (some (.lst (tx.map D.str))) x6 (some (.lst (rows.map rowD))) x8 x9 x10 x11 x12 x13 x14 ∧ rows.length = S.length + k ∧ (∀ r ∈ rows, RowY S r) ∧ ∀ l ∈ S, ∃ r ∈ rows, r.l = l ∧ r.a = none ∧ r.b = none) ⟨x8, none, none, none, none, none, rows0, rfl, by simp [lS], ?_, ?_⟩ ?_) ?_
  · intro r h'
    obtain ⟨q1, q2, q3⟩ := hr r h'
    refine ⟨by rw [q2]; trivial, ?_, by rw [q3]; trivial, q1⟩
    rw [← eS]
    exact List.mem_map.mpr ⟨r, h', rfl⟩
  · intro l hl'
    rw [← eS] at hl'
    obtain ⟨r, h', rfl⟩ := List.mem_map.mp hl'
    exact ⟨r, h', rfl, (hr r h').2⟩
  · rintro i x m hx ⟨x8, x10, x11, x12, x13, x14, rows, rfl, lr, okr, bare⟩
    obtain ⟨il, rfl⟩ := rng_at hx
    have S0 : 0 < S.length := by omega
    generalize hk8 : (0 : Int) + (i : Nat) * 1 = k8
    have k8n : 0 ≤ k8 := by omega
    have q1 := pick_lt ns (at_ + 10 + 6 * k8) 4 (by decide)
    have q2 := pick_lt ns (at_ + 10 + 6 * k8 + 1) 4 (by decide)
    have q3 := pick_lt ns (at_ + 10 + 6 * k8 + 2) S.length (by omega)
    have q4 := pick_lt ns (at_ + 10 + 6 * k8 + 3) 10 (by decide)
    have q5 := pick_lt ns (at_ + 10 + 6 * k8 + 4) (rows.length + 1) (by omega)
    obtain ⟨a, ea, oka⟩ := nb_pick S0 q1.1 q1.2
    obtain ⟨b, eb, okb⟩ := nb_pick S0 q2.1 q2.2
    obtain ⟨t, et, okt⟩ := textAt _ q4.1 q4.2
    have sL : S.length ≤ sz := Nat.le_trans s3 (by decide)
    have el := i_str sL (at_int S _ q3.1 q3.2)
    have e0 : idxM (.str S) (.int 0) = pure (.str [S[0]'S0]) := i_str sL (at_nat S 0 S0)
    have e9 : idxM (.str S) (.int (-1)) = pure (.str [S[S.length - 1]'(by omega)]) := i_str sL (at_last S S0)
    have rb : rows.length ≤ 1000 := by
      have : i < 1000 := by omega
      omega
    have ct : cut (rows.map rowD) none (some (pick ns (at_ + 10 + 6 * k8 + 4) (rows.length + 1))) = (rows.take (pick ns (at_ + 10 + 6 * k8 + 4) (rows.length + 1)).toNat).map rowD := by
      have e : pick ns (at_ + 10 + 6 * k8 + 4) (rows.length + 1) = ((pick ns (at_ + 10 + 6 * k8 + 4) (rows.length + 1)).toNat : Int) := by omega
      conv => lhs; rw [e]
      rw [cut_to _ _ (by rw [List.length_map]; omega), List.map_take]
    have cd : cut (rows.map rowD) (some (pick ns (at_ + 10 + 6 * k8 + 4) (rows.length + 1))) none = (rows.drop (pick ns (at_ + 10 + 6 * k8 + 4) (rows.length + 1)).toNat).map rowD := by
      have e : pick ns (at_ + 10 + 6 * k8 + 4) (rows.length + 1) = ((pick ns (at_ + 10 + 6 * k8 + 4) (rows.length + 1)).toNat : Int) := by omega
      conv => lhs; rw [e]
      rw [cut_from _ _ (by rw [List.length_map]; omega), List.map_drop]
    have lp : (pick ns (at_ + 10 + 6 * k8 + 4) (rows.length + 1)).toNat ≤ rows.length := by omega
    have okp5 := ok_pick ns (at_ + 10 + 6 * k8 + 4) (rows.length + 1) (by omega) (by omega)
    generalize pick ns (at_ + 10 + 6 * k8 + 4) (rows.length + 1) = p5 at *
    generalize hrow : Row.mk a (S[(pick ns (at_ + 10 + 6 * k8 + 2) S.length).toNat]'(by omega)) b t = row
    have hrowD : D.tup [nbD a, .str [S[(pick ns (at_ + 10 + 6 * k8 + 2) S.length).toNat]'(by omega)], nbD b, .str t] = rowD row := by rw [← hrow]; rfl
    have okrow : RowY S row := by rw [← hrow]; exact ⟨oka, List.getElem_mem _, okb, okt⟩
    have mem : ∀ r, r ∈ rows.take p5.toNat ++ [row] ++ rows.drop p5.toNat ↔ r = row ∨ r ∈ rows := fun r => by
      have : r ∈ rows ↔ r ∈ rows.take p5.toNat ++ rows.drop p5.toNat := by rw [List.take_append_drop]
      rw [this]
      simp only [List.mem_append, List.mem_singleton]
      constructor
      · rintro ((h | h) | h)
        · exact .inr (.inl h)
        · exact .inl h
        · exact .inr (.inr h)
      · rintro (h | h | h)
        · exact .inl (.inr h)
        · exact .inl (.inl h)
        · exact .inr h
    refine ⟨tslots ns at_ most S small (some (.lst (tx.map D.str))) x6 (some (.lst ((rows.take p5.toNat ++ [row] ++ rows.drop p5.toNat).map rowD))) (some (.int k8)) x9 (some (.int (at_ + 10 + 6 * k8))) (some (nbD a)) (some (nbD b)) (some (rowD row)) (some (.int p5)), ?_, _, _, _, _, _, _, _, rfl, ?_, ?_, ?_⟩
    · rw [bind_name, pure_bnd]
      simp only [tslots, List.set_cons_succ, List.set_cons_zero, x_cons, x_set, x_setO, x_nil, v_tup, v_lst, v_acons, v_anil, v_cst, v_slot, v_idx, v_call, v_bin, v_neg, v_blt, v_sl, v_onone, v_osome, List.getElem?_cons_succ, List.getElem?_cons_zero, getS_some, L3_pure, L2_pure, L1_pure, o_addI, consM_pure, tab0, b_blt1, negM_int, e0, e9,
        o_mulI 6 k8 (by simp [inR]), setM_pure, seq_next, lstM4, lstM1, tupM4, ok_pick ns (at_ + 10 + 6 * k8) 4 (by omega) (by decide), ok_pick ns (at_ + 10 + 6 * k8 + 1) 4 (by omega) (by decide), ok_pick ns (at_ + 10 + 6 * k8 + 2) S.length (by omega) (by omega), ok_pick ns (at_ + 10 + 6 * k8 + 3) 10 (by omega) (by decide), ea, eb, et, el, b_lenX _ sL, hrowD, b_lenL, List.length_map, okp5, someI_int, c_lst, ct, cd]
      rw [o_addL _ _ (by simp; exact Nat.le_trans (by omega) (show 1001 ≤ sz by decide)), L2_pure, o_addL _ _ (by simp; exact Nat.le_trans (by omega) (show 2002 ≤ sz by decide))]
      simp
    · simp [lr]
      omega
    · intro r h'
      rcases (mem r).mp h' with rfl | h'
      · exact okrow
      · exact okr r h'
    · intro l hl'
      obtain ⟨r, h', q⟩ := bare l hl'
      exact ⟨r, (mem r).mpr (.inr h'), q⟩
  · rintro m3 ⟨x8, x10, x11, x12, x13, x14, rows, rfl, lr, okr, bare⟩
    rw [rng_length] at lr
    refine ⟨rows, ?_, s2, s3, snd, sgr, okr, bare, by omega, by omega⟩
    simp [tslots, tabD]
end WB.C
namespace WB.C
open WB
abbrev Pc := List Nat × Nat × Nat
def wC (t : List Row) : Nat → List Nat → Nat → List Nat
  | _, [], _ => []
  | a, c :: v, l => tx t a c (v.headD l) ++ wC t c v l
def Sem (t : List Row) (s : List Nat) (p : Pc) : Prop := ∃ (v : List Nat) (k : Nat), (∀ c ∈ v, c ∈ lets t) ∧ p.2.1 ∈ lets t ∧ p.2.2 ∈ es t ∧
  wC t 35 v p.2.1 ++ (tx t (v.getLastD 35) p.2.1 p.2.2).take k = s ∧ (tx t (v.getLastD 35) p.2.1 p.2.2).drop k = p.1 ∧ k ≤ (tx t (v.getLastD 35) p.2.1 p.2.2).length ∧ (p.1 = [] → p.2.2 = 35)
end WB.C
namespace WB.C
open WB
section
variable {α : Type} [DecidableEq α] {u : α → D} {lt : α → α → Bool}
structure OrdD (u : α → D) (lt : α → α → Bool) : Prop where
  k : ∀ a b, keyEq (u a) (u b) = decide (a = b)
  l : ∀ a b, ltD (u a) (u b) = lt a b
  tr : ∀ a b c, lt a b = true → lt b c = true → lt a c = true
  tot : ∀ a b, lt a b = false → a ≠ b → lt b a = true
  irr : ∀ a, lt a a = false
end
def pcD (p : Pc) : D := .tup [.str p.1, .str [p.2.1], .str [p.2.2]]
theorem beq1 (a b : Nat) : (([a] : List Nat) == [b]) = decide (a = b) := by
  by_cases e : a = b
  · subst e; simp
  · rw [decide_eq_false e]; simpa using e
def Uq (r : List Nat) : Prop := r.length ≤ 3 ∧ (r.length = 3 → r.getD 0 0 ≠ r.getD 1 0)
def UqT (t : List Row) : Prop := ∀ r ∈ t, Uq r.t
end WB.C
namespace WB.C
open WB
section
variable {t : List Row} (ht : Tab t) (o : Objs)
include ht
end
def lS (t : List Row) (d : D) (x : Nat) (acc : List Pc) (x4 x5 x6 x7 : Option D) : Slots := [some (tabD t), some d, some (.str [x]), some (.lst (acc.map pcD)), x4, x5, x6, x7]
section
variable {t : List Row} (ht : Tab t) (o : Objs) (d : D) (x : Nat)
include ht
end
end WB.C
namespace WB.C
open WB
def PD (t : List Row) (s : List Nat) (d : D) : Prop := ∃ ps : List Pc, (d = .lst (ps.map pcD) ∨ d = .tup (ps.map pcD)) ∧ (∀ p, p ∈ ps ↔ Sem t s p) ∧ ps.length ≤ 59
theorem PD.items {t : List Row} {s : List Nat} {d : D} (h : PD t s d) : ∃ ps : List Pc, itemsM d = pure (ps.map pcD) ∧ (∀ p, p ∈ ps ↔ Sem t s p) ∧ ps.length ≤ 59 := by
  obtain ⟨ps, rfl | rfl, h2, h3⟩ := h
  · exact ⟨ps, rfl, h2, h3⟩
  · exact ⟨ps, rfl, h2, h3⟩
structure Fit (t : List Row) : Prop where
  tb : Tab t
  r7 : t.length ≤ 7
  l3 : (lets t).length ≤ 3
  uq : UqT t
end WB.C
namespace WB.C
open WB
def rdF (t : List Row) (s : List Nat) (p : Nat) : List (Nat × D) := [(0, tabD t), (3, .str s), (4, .obj p)]
structure RS (t : List Row) (o : Objs) (n p : Nat) (s : List Nat) (L : List D) : Prop where
  ins : o[n]? = some (.ins 1 (rdF t s p))
  box : o[p]? = some (.box (.lst L))
  len : L.length = s.length + 1
  pl : ∀ i (h : i < L.length), PD t (s.take i) L[i]
  s24 : s.length ≤ 24
section
variable {t : List Row} (f : Fit t) {o : Objs} {n p : Nat} {s : List Nat} {L : List D} (R : RS t o n p s L)
include f R
theorem RS.np : p ≠ n := fun z => by
  have h1 := R.ins
  have h2 := R.box
  rw [z, h1] at h2
  cases h2
theorem RS.last : ∃ d, idxM (.lst L) (.int (-1)) = pure d ∧ PD t s d := by
  have hl := R.len
  have h := R.pl s.length (by omega)
  rw [List.take_length] at h
  refine ⟨L[s.length]'(by omega), i_lst ?_, h⟩
  rw [at_last L (by omega)]
  congr 2
  omega
end
end WB.C
namespace WB.C
open WB
section
variable {t : List Row} (f : Fit t) {o : Objs} {n p : Nat} {s : List Nat} {L : List D} (R : RS t o n p s L)
include f R
end
end WB.C
namespace WB.C
open WB
theorem fit_of {S : List Nat} {most : Nat} {t : List Row} (h : TabY S most t) (h7 : most ≤ 7) : Fit t := by
  refine ⟨tab_of (drawn_tab h.ok (by omega)), Nat.le_trans h.hi h7, lets3 h.ok, fun r hr => ?_⟩
  obtain ⟨h1, h2⟩ := (h.rows r hr).t
  exact ⟨h1.2.1, h2⟩
end WB.C
namespace WB.C
open WB
def CC (t : List Row) (s : List Nat) (p a l : Nat) : Prop := ∃ z : List Nat, (∀ c ∈ z, c ∈ lets t) ∧ s.drop p <+: wrA t a (l :: z)
noncomputable instance (priority := low) decCC (t : List Row) (s : List Nat) (p a l : Nat) : Decidable (CC t s p a l) := Classical.propDecidable _
end WB.C
namespace WB.C
open WB
def oK (o : Objs) (kb : Nat) (ks : List (D × D)) : Objs := o.set kb (.box (.dic true ks))
theorem qD_self (q : Q3) : keyEq (qD q) (qD q) = true := kD_self _ _ _
theorem qD_ne {q r : Q3} (h : r ≠ q) : keyEq (qD q) (qD r) = false := kD_ne fun z => h (by
  obtain ⟨a, b, c⟩ := q
  obtain ⟨a', b', c'⟩ := r
  obtain ⟨z1, z2, z3⟩ := z
  dsimp only at z1 z2 z3
  rw [z1, z2, z3])
theorem some_mem : ∀ {ks : List (D × D)} {V : List Q3}, ks.map Prod.fst = V.map qD → ∀ q : Q3, (getD (qD q) ks).isSome = true ↔ q ∈ V
  | [], [], _, q => by simp [getD]
  | [], _ :: _, h, q => nomatch h
  | _ :: _, [], h, q => nomatch h
  | (a, v) :: ks, r :: V, h, q => by
    have h1 : a = qD r := (List.cons.inj h).1
    have h2 : ks.map Prod.fst = V.map qD := (List.cons.inj h).2
    have ih := some_mem h2 q
    show ((if keyEq a (qD q) then some v else getD (qD q) ks).isSome = true) ↔ _
    rw [h1]
    by_cases e : q = r
    · subst e
      rw [if_pos (qD_self q)]
      simp
    · rw [if_neg (by rw [qD_ne e]; simp), ih, List.mem_cons]
      simp [e]
structure KC (t : List Row) (s : List Nat) (ks : List (D × D)) (V : List Q3) (lo : Nat) : Prop where
  keys : ks.map Prod.fst = V.map qD
  nd : V.Nodup
  un : ∀ q ∈ V, q ∈ uni t s
  good : ∀ q ∈ V, lo ≤ q.1 → getD (qD q) ks = some (.bl (decide (CC t s q.1 q.2.1 q.2.2)))
def Fr (p : Nat) (ks ks' : List (D × D)) : Prop := ∀ q : Q3, q.1 < p → getD (qD q) ks' = getD (qD q) ks
theorem uni_len {t : List Row} (ht : Tab t) {s : List Nat} (hs : s.length ≤ 24) : (uni t s).length ≤ 3000 := by
  have g : ∀ {α β : Type} (f : α → List β) (n : Nat) (l : List α), (∀ x ∈ l, (f x).length ≤ n) → (l.flatMap f).length ≤ l.length * n := fun f n l hl => by
    induction l with
    | nil => simp
    | cons a l ih =>
      rw [List.flatMap_cons, List.length_append, List.length_cons, Nat.succ_mul]
      have := hl a (by simp)
      have := ih fun x hx => hl x (List.mem_cons_of_mem _ hx)
      omega
  have l10 := ht.lets1.2
  have el := es_len ht
  have h1 : ∀ p : Nat, ((es t).flatMap fun a => (lets t).map fun l => ((p, a, l) : Q3)).length ≤ 110 := fun p => by
    have := g (fun a => (lets t).map fun l => ((p, a, l) : Q3)) 10 (es t) fun a _ => by rw [List.length_map]; exact l10
    omega
  have := g (fun p => (es t).flatMap fun a => (lets t).map fun l => ((p, a, l) : Q3)) 110 (List.range (s.length + 1)) fun p _ => h1 p
  rw [List.length_range] at this
  unfold uni
  omega
theorem KC.len {t : List Row} (ht : Tab t) {s : List Nat} (hs : s.length ≤ 24) {ks : List (D × D)} {V : List Q3} {lo : Nat} (h : KC t s ks V lo) : ks.length ≤ 3000 := by
  have e := congrArg List.length h.keys
  rw [List.length_map, List.length_map] at e
  have := nodup_q h.nd h.un
  have := uni_len ht hs
  omega
structure LI (t : List Row) (s : List Nat) (ks : List (D × D)) (V : List Q3) (q : Q3) (acc : Bool) : Prop where
  keys : ks.map Prod.fst = V.map qD
  nd : V.Nodup
  un : ∀ r ∈ V, r ∈ uni t s
  good : ∀ r ∈ V, r ≠ q → q.1 ≤ r.1 → getD (qD r) ks = some (.bl (decide (CC t s r.1 r.2.1 r.2.2)))
  at_ : getD (qD q) ks = some (.bl acc)
theorem LI.mem {t : List Row} {s : List Nat} {ks : List (D × D)} {V : List Q3} {q : Q3} {acc : Bool} (h : LI t s ks V q acc) : q ∈ V := (some_mem h.keys q).mp (by rw [h.at_]; rfl)
theorem LI.len {t : List Row} (ht : Tab t) {s : List Nat} (hs : s.length ≤ 24) {ks : List (D × D)} {V : List Q3} {q : Q3} {acc : Bool} (h : LI t s ks V q acc) : ks.length ≤ 3000 := by
  have e := congrArg List.length h.keys
  rw [List.length_map, List.length_map] at e
  have := nodup_q h.nd h.un
  have := uni_len ht hs
  omega
theorem LI.from {t : List Row} {s : List Nat} {ks ks' : List (D × D)} {V V' : List Q3} {q : Q3} {acc : Bool} (h : LI t s ks V q acc) {lo : Nat} (hl : q.1 < lo) (k : KC t s ks' V' lo) (fr : Fr lo ks ks') : LI t s ks' V' q acc := by
  refine ⟨k.keys, k.nd, k.un, fun r hr ne le => ?_, by rw [fr q hl]; exact h.at_⟩
  by_cases c : lo ≤ r.1
  · exact k.good r hr c
  · have e := fr r (by omega)
    have : r ∈ V := (some_mem h.keys r).mp (by rw [← e]; exact (some_mem k.keys r).mpr hr)
    rw [e]
    exact h.good r this ne le
theorem LI.done {t : List Row} {s : List Nat} {ks : List (D × D)} {V : List Q3} {q : Q3} {acc : Bool} (h : LI t s ks V q acc) (e : acc = decide (CC t s q.1 q.2.1 q.2.2)) : KC t s ks V q.1 := by
  refine ⟨h.keys, h.nd, h.un, fun r hr le => ?_⟩
  by_cases c : r = q
  · rw [c, h.at_, e]
  · exact h.good r hr c le
def ComeOk (t : List Row) (s : List Nat) (o : Objs) (kb n : Nat) : Prop := ∀ (p a l : Nat) (ks : List (D × D)) (V : List Q3), s.length < n + p → 1 ≤ n → a ∈ es t → l ∈ lets t → KC t s ks V p →
  ∃ ks' V', d_can_come n [tabD t, .str s, .int (p : Nat), .str [a], .str [l], .obj kb] (oK o kb ks) = .ok (.bl (decide (CC t s p a l))) (oK o kb ks') ∧ KC t s ks' V' p ∧ Fr p ks ks'
section
variable {t : List Row} (ht : Tab t) {s : List Nat} (hs : s.length ≤ 24) {o : Objs} {kb : Nat} (hk : kb < o.length) {n : Nat} (ih : ComeOk t s o kb n)
include ht hs hk ih
end
end WB.C
namespace WB.C
open WB
section
variable {α β : Type} [DecidableEq α]
def lkA (q : α) : List (α × β) → Option β
  | [] => none
  | p :: r => if p.1 = q then some p.2 else lkA q r
def ptA (q : α) (v : β) (l : List (α × β)) : List (α × β) := if (l.any fun p => decide (p.1 = q)) = true then l.map (fun p => if p.1 = q then (p.1, v) else p) else l ++ [(q, v)]
def enA (kf : α → D) (vf : β → D) (l : List (α × β)) : List (D × D) := l.map fun p => (kf p.1, vf p.2)
structure KF (kf : α → D) : Prop where
  eq : ∀ a b, keyEq (kf a) (kf b) = decide (a = b)
  nk : ∀ a, nkB (kf a) = true
theorem anyA (q : α) (l : List (α × β)) : (l.any fun p => decide (p.1 = q)) = decide (q ∈ l.map (·.1)) := by
  rw [Bool.eq_iff_iff, decide_eq_true_eq, List.any_eq_true]
  constructor
  · rintro ⟨p, hp, e⟩
    exact List.mem_map.mpr ⟨p, hp, of_decide_eq_true e⟩
  · intro h
    obtain ⟨p, hp, e⟩ := List.mem_map.mp h
    exact ⟨p, hp, decide_eq_true e⟩
theorem ptA_keys (q : α) (v : β) (l : List (α × β)) : (ptA q v l).map (·.1) = if q ∈ l.map (·.1) then l.map (·.1) else l.map (·.1) ++ [q] := by
  unfold ptA
  rw [anyA]
  by_cases c : q ∈ l.map (·.1)
  · rw [decide_eq_true c, if_pos rfl, if_pos c, List.map_map]
    refine List.map_congr_left fun p _ => ?_
    show (if p.1 = q then (p.1, v) else p).1 = p.1
    split <;> rfl
  · rw [decide_eq_false c, if_neg Bool.false_ne_true, if_neg c, List.map_append]
    rfl
theorem ptA_mem {q r : α} {v : β} {l : List (α × β)} : r ∈ (ptA q v l).map (·.1) ↔ r = q ∨ r ∈ l.map (·.1) := by
  rw [ptA_keys]
  by_cases c : q ∈ l.map (·.1)
  · rw [if_pos c]
    exact ⟨.inr, fun z => z.elim (fun e => by rw [e]; exact c) id⟩
  · rw [if_neg c, List.mem_append, List.mem_singleton, or_comm]
theorem ptA_nodup {q : α} {v : β} {l : List (α × β)} (h : (l.map (·.1)).Nodup) : ((ptA q v l).map (·.1)).Nodup := by
  rw [ptA_keys]
  by_cases c : q ∈ l.map (·.1)
  · rw [if_pos c]; exact h
  · rw [if_neg c]
    refine List.nodup_append.mpr ⟨h, by simp, fun x hx y hy e => ?_⟩
    rw [List.mem_singleton.mp hy] at e
    rw [e] at hx
    exact c hx
section
variable {kf : α → D} {vf : β → D} (h : KF kf)
include h
end
theorem lenA {l : List (α × β)} {Z : List α} (h : (l.map (·.1)).Nodup) (k : ∀ q ∈ l.map (·.1), q ∈ Z) : l.length ≤ Z.length := by
  have := nodup_q h k
  rwa [List.length_map] at this
variable {kf : α → D} {vf : β → D} (h : KF kf) {o : Objs} {n : Nat} {l : Bool} {L : List (α × β)}
include h
end
section
variable {Φ : Fns} {F : Nat} {m : Slots}
end
end WB.C
namespace WB.C
open WB
def rD (q : Q3) : D := .tup [.int (q.1 : Nat), .tup [.str [q.2.1], .str [q.2.2]]]
def nD (n : Nat) : D := .int (n : Nat)
def w2 (t : List Row) (s : List Nat) (p a l : Nat) : Nat := min (S_ t s p a l).length 2
structure KR (t : List Row) (s : List Nat) (L : List (Q3 × Nat)) : Prop where
  nd : (L.map (·.1)).Nodup
  un : ∀ q ∈ L.map (·.1), q ∈ uni t s
  good : ∀ q n, lkA q L = some n → n = w2 t s q.1 q.2.1 q.2.2
theorem uni_len2 {t : List Row} (ht : Tab t) {s : List Nat} : (uni t s).length ≤ (s.length + 1) * 110 := by
  have g : ∀ {α β : Type} (f : α → List β) (n : Nat) (l : List α), (∀ x ∈ l, (f x).length ≤ n) → (l.flatMap f).length ≤ l.length * n := fun f n l hl => by
    induction l with
    | nil => simp
    | cons a l ih =>
      rw [List.flatMap_cons, List.length_append, List.length_cons, Nat.succ_mul]
      have := hl a (by simp)
      have := ih fun x hx => hl x (List.mem_cons_of_mem _ hx)
      omega
  have l10 := ht.lets1.2
  have el := es_len ht
  have h1 : ∀ p : Nat, ((es t).flatMap fun a => (lets t).map fun l => ((p, a, l) : Q3)).length ≤ 110 := fun p => by
    have := g (fun a => (lets t).map fun l => ((p, a, l) : Q3)) 10 (es t) fun a _ => by rw [List.length_map]; exact l10
    omega
  have := g (fun p => (es t).flatMap fun a => (lets t).map fun l => ((p, a, l) : Q3)) 110 (List.range (s.length + 1)) fun p _ => h1 p
  rw [List.length_range] at this
  exact this
theorem KR.len {t : List Row} (ht : Tab t) {s : List Nat} (hs : s.length ≤ 1000) {L : List (Q3 × Nat)} (h : KR t s L) : L.length < sz := by
  have := lenA h.nd h.un
  have := uni_len2 ht (s := s)
  have : (s.length + 1) * 110 ≤ 1001 * 110 := Nat.mul_le_mul_right _ (by omega)
  simp only [sz]; omega
theorem KR.nil (t : List Row) (s : List Nat) : KR t s [] := ⟨.nil, (fun _ z => by cases z), (fun _ _ z => by cases z)⟩
def oN (o : Objs) (kb : Nat) (L : List (Q3 × Nat)) : Objs := o.set kb (.nd false (enA rD nD L))
def ReadOk (t : List Row) (s : List Nat) (o : Objs) (kb n : Nat) : Prop := ∀ (p a l : Nat) (L : List (Q3 × Nat)), s.length < n + p → p ≤ s.length → a ∈ es t → l ∈ es t → KR t s L →
  ∃ L', d_readings (n + 1) [tabD t, .str s, .int (p : Nat), .tup [.str [a], .str [l]], .obj kb] (oN o kb L) = .ok (.int (w2 t s p a l : Nat)) (oN o kb L') ∧ KR t s L'
section
variable {t : List Row} (ht : Tab t) {s : List Nat} (hs : s.length ≤ 1000) {o : Objs} {kb : Nat} (hk : kb < o.length) {n : Nat} (ih : ReadOk t s o kb n)
include ht hs hk ih
end
end WB.C
namespace WB.C
open WB
def Mr (o o' : Objs) : Prop := ∃ x, o' = o ++ x
theorem Mr.refl (o : Objs) : Mr o o := ⟨[], by rw [List.append_nil]⟩
theorem Mr.trans {a b c : Objs} (h : Mr a b) (k : Mr b c) : Mr a c := by
  obtain ⟨x, rfl⟩ := h
  obtain ⟨y, rfl⟩ := k
  exact ⟨x ++ y, by rw [List.append_assoc]⟩
theorem Mr.at_ {o o' : Objs} {n : Nat} {b : Ob} (h : Mr o o') (k : o[n]? = some b) : o'[n]? = some b := by
  obtain ⟨x, rfl⟩ := h
  rw [List.getElem?_append_left (List.getElem?_eq_some_iff.mp k).1]
  exact k
section
variable {o : Objs} {n c : Nat} {t : List Row} {P : Ls} {num : Nat} (h : DS o n (nowD t P num) c)
include h
end
end WB.C
namespace WB.C
open WB
inductive MapO (g : D → Objs → Res (Option D)) : List D → Objs → List D → Objs → Prop where
  | nil (o : Objs) : MapO g [] o [] o
  | out {x : D} {xs ys : List D} {o o1 o2 : Objs} (h : g x o = .ok none o1) (t : MapO g xs o1 ys o2) : MapO g (x :: xs) o ys o2
  | cons {x y : D} {xs ys : List D} {o o1 o2 : Objs} (h : g x o = .ok (some y) o1) (t : MapO g xs o1 ys o2) : MapO g (x :: xs) o (y :: ys) o2
theorem MapO.len {g : D → Objs → Res (Option D)} {xs ys : List D} {o o' : Objs} (h : MapO g xs o ys o') : ys.length ≤ xs.length := by
  induction h with
  | nil o => exact Nat.le_refl _
  | out h t ih => rw [List.length_cons]; omega
  | cons h t ih => rw [List.length_cons, List.length_cons]; omega
theorem ev_compS {Φ : Fns} {t : Tg} {it elt : E} {c : Option E} {own : List Nat} {m : Slots} {o o1 o2 : Objs} {xs ys : List D} (hi : evI Φ it m o = .ok xs o1) (hl : xs.length < sz)
    (h : MapO (fun x o => (bindD t x (wipeD m own) >>= fun m' => evC Φ c m' >>= fun b => if b then evE Φ elt m' >>= fun y => pure (some y) else pure none) o) xs o1 ys o2) : evE Φ (.comp t it c elt own) m o = .ok (.lst ys) o2 := by
  have hy := h.len
  have key : mapM' (fun x => bindD t x (wipeD m own) >>= fun m' => evC Φ c m' >>= fun b => if b then evE Φ elt m' >>= fun y => pure (some y) else pure none) xs o1 = .ok ys o2 := by
    clear hi hl hy
    induction h with
    | nil o => rfl
    | out h t ih =>
      show ((bindD _ _ _ >>= _) >>= fun a => mapM' _ _ >>= fun r => pure (match a with | some y => y :: r | none => r)) _ = _
      rw [bnd_ap, h, seqR_ok, bnd_ap, ih, seqR_ok]
      rfl
    | cons h t ih =>
      show ((bindD _ _ _ >>= _) >>= fun a => mapM' _ _ >>= fun r => pure (match a with | some y => y :: r | none => r)) _ = _
      rw [bnd_ap, h, seqR_ok, bnd_ap, ih, seqR_ok]
      rfl
  show (evI Φ it m >>= fun xs => shut (mapM' _ xs) >>= fun ys => if xs.length < sz then pure (D.lst ys) else M.fail) o = _
  rw [bnd_ap, hi, seqR_ok, bnd_ap]
  unfold shut
  rw [key]
  dsimp only
  rw [seqR_ok, if_pos hl]
  rfl
section
variable {o : Objs} {n c : Nat} {t : List Row} {P : Ls} {num : Nat} (h : DS o n (nowD t P num) c) (k : NOk t P num)
include h k
end
end WB.C
namespace WB.C
open WB
section
variable {α β : Type} [DecidableEq α] {kf : α → D} {vf : β → D} (h : ∀ a b, keyEq (kf a) (kf b) = decide (a = b))
include h
end
abbrev Sz := List (Nat × Nat)
def szD (S : Sz) : D := .dic false (enA nD nD S)
def addZ (most st : Nat) (T : Sz) (q : Nat × Nat) : Sz := if q.1 + st ≤ most then ptA (q.1 + st) ((lkA (q.1 + st) T).getD 0 + q.2) T else T
structure SOk (most : Nat) (S : Sz) : Prop where
  nd : (S.map (·.1)).Nodup
  le : ∀ q ∈ S.map (·.1), q ≤ most
theorem SOk.len {most : Nat} {S : Sz} (h : SOk most S) : S.length ≤ most + 1 := by
  have := lenA (Z := List.range (most + 1)) h.nd fun q hq => List.mem_range.mpr (by have := h.le q hq; omega)
  rwa [List.length_range] at this
theorem SOk.nil (most : Nat) : SOk most [] := ⟨.nil, fun _ z => by cases z⟩
theorem SOk.add {most : Nat} {S : Sz} (h : SOk most S) (st : Nat) (q : Nat × Nat) : SOk most (addZ most st S q) := by
  unfold addZ
  split
  · rename_i c
    exact ⟨ptA_nodup h.nd, fun x hx => (ptA_mem.mp hx).elim (fun e => by rw [e]; exact c) (h.le x)⟩
  · exact h
end WB.C
namespace WB.C
open WB
def pk (p : Nat × Nat) : D := .tup [.str [p.1], .str [p.2]]
abbrev Bo := (Nat × Nat) × (Nat × Sz)
def vO (v : Nat × Sz) : D := .obj v.1
structure Bk (t : List Row) (o : Objs) (kb most : Nat) (L : List Bo) : Prop where
  nd : o[kb]? = some (.nd false (enA pk vO L))
  bx : ∀ e ∈ L, e.2.1 ≠ kb ∧ o[e.2.1]? = some (.box (szD e.2.2))
  keys : (L.map (·.1)).Nodup
  ids : ∀ e ∈ L, ∀ f ∈ L, e.2.1 = f.2.1 → e.1 = f.1
  sok : ∀ e ∈ L, SOk most e.2.2
  le : ∀ e ∈ L, e.1.1 ∈ es t ∧ e.1.2 ∈ lets t
section
variable {t : List Row} (ht : Tab t) {most : Nat} (hm : most ≤ 1000)
include ht
theorem Bk.len {o : Objs} {kb most : Nat} {L : List Bo} (M : Bk t o kb most L) : L.length < sz := by
  have ll : (lets t).length ≤ 10 := by
    have := ht.n10
    have := sortN_len (t.map Row.l)
    rw [List.length_map] at this
    unfold lets
    omega
  have := lenA (Z := (es t).flatMap fun a => (lets t).map fun b => (a, b)) M.keys fun q hq => by
    obtain ⟨e, he, rfl⟩ := List.mem_map.mp hq
    obtain ⟨h1, h2⟩ := M.le e he
    exact List.mem_flatMap.mpr ⟨e.1.1, h1, List.mem_map.mpr ⟨e.1.2, h2, rfl⟩⟩
  have l2 : ∀ xs : List Nat, (xs.flatMap fun a => (lets t).map fun b => (a, b)).length = xs.length * (lets t).length := fun xs => by
    induction xs with
    | nil => simp
    | cons x xs ih => rw [List.flatMap_cons, List.length_append, List.length_map, ih, List.length_cons, Nat.succ_mul, Nat.add_comm]
  rw [l2] at this
  have le : (es t).length ≤ 11 := by unfold es; rw [List.length_append]; simp; omega
  have := Nat.mul_le_mul le ll
  simp only [WB.sz]
  omega
include hm
end
end WB.C
namespace WB.C
open WB
theorem sum_addF {α : Type} (f g : α → Nat) : ∀ l : List α, (l.map fun x => f x + g x).sum = (l.map f).sum + (l.map g).sum
  | [] => rfl
  | x :: l => by
    rw [List.map_cons, List.map_cons, List.map_cons, List.sum_cons, List.sum_cons, List.sum_cons, sum_addF f g l]
    omega
theorem sum_zero {α : Type} : ∀ l : List α, (l.map fun _ => 0).sum = 0
  | [] => rfl
  | x :: l => by rw [List.map_cons, List.sum_cons, sum_zero l]
theorem sum_mulF {α : Type} (n : Nat) (f : α → Nat) : ∀ l : List α, (l.map fun x => n * f x).sum = n * (l.map f).sum
  | [] => rfl
  | x :: l => by rw [List.map_cons, List.map_cons, List.sum_cons, List.sum_cons, sum_mulF n f l, Nat.mul_add]
def B0 : List Nat → Nat → List Bo
  | [], _ => []
  | l :: ls, n => ((35, l), (n, [(0, 1)])) :: B0 ls (n + 1)
section
variable {t : List Row} (ht : Tab t)
include ht
theorem lets_nd : (lets t).Nodup := by
  have : (lets t).Pairwise (· < ·) := sortN_sorted _
  exact this.imp fun h => Nat.ne_of_lt h
end
end WB.C
namespace WB.C
open WB
theorem look_most {n m : Nat} (h : n ≤ m) : d_look_whole [.int (n : Nat), .int (m : Nat)] = pure .non := by
  unfold d_look_whole c_look_whole
  rw [den2]
  have i1 : isM .int (.int (n : Nat)) = pure (.bl true) := rfl
  have i2 : isM .bool (.int (n : Nat)) = pure (.bl false) := rfl
  have r0 : (some (D.int (n : Nat)) :: some (D.int (m : Nat)) :: List.replicate (2 - 2) (none : Option D)) = [some (.int (n : Nat)), some (.int (m : Nat))] := rfl
  have ch : chnM (tab []) .le .le (.slot 1) [some (.int (n : Nat)), some (.int (m : Nat))] (.int 0) (.int (n : Nat)) = pure (.bl true) := by
    have a := chain_le (Φ := tab []) (m := [some (.int (n : Nat)), some (.int (m : Nat))]) 0 (n : Nat) (m : Nat)
    have b : chnM (tab []) .le .le (.slot 1) [some (.int (n : Nat)), some (.int (m : Nat))] (.int 0) (.int (n : Nat)) = chnM (tab []) .le .le (.cst (.int (m : Nat))) [some (.int (n : Nat)), some (.int (m : Nat))] (.int 0) (.int (n : Nat)) := rfl
    rw [b, a]
    congr 2
    simp
    omega
  rw [r0]
  simp only [x_cons, x_nil, x_if, v_or, v_not, v_isi, v_chain, v_cst, v_slot, List.getElem?_cons_zero, List.getElem?_cons_succ, getS_some, L1_pure, L2_pure, i1, i2, ch]
  rfl
def bW : List S := [.set 4 (.call 3 [.slot 0, .slot 4, .slot 2])]
section
variable {t : List Row} (ht : Tab t)
include ht
end
end WB.C
namespace WB.C
open WB
def wLs (t : List Row) : Nat → List (List Nat)
  | 0 => [[]]
  | k + 1 => (lets t).flatMap fun b => (wLs t k).map fun w => b :: w
theorem mem_wLs {t : List Row} : ∀ {k : Nat} {w : List Nat}, w ∈ wLs t k ↔ w.length = k ∧ ∀ c ∈ w, c ∈ lets t
  | 0, w => by
    show w ∈ [[]] ↔ _
    rw [List.mem_singleton]
    exact ⟨fun e => by rw [e]; exact ⟨rfl, fun _ z => by cases z⟩, fun h => List.eq_nil_of_length_eq_zero h.1⟩
  | k + 1, w => by
    show w ∈ (lets t).flatMap (fun b => (wLs t k).map fun w => b :: w) ↔ _
    rw [List.mem_flatMap]
    constructor
    · rintro ⟨b, hb, h⟩
      obtain ⟨v, hv, rfl⟩ := List.mem_map.mp h
      obtain ⟨h1, h2⟩ := mem_wLs.mp hv
      refine ⟨by rw [List.length_cons, h1], fun c hc => ?_⟩
      rcases List.mem_cons.mp hc with rfl | hc
      · exact hb
      · exact h2 c hc
    · rintro ⟨h1, h2⟩
      match w, h1, h2 with
      | b :: v, h1, h2 =>
        exact ⟨b, h2 b (by simp), List.mem_map.mpr ⟨v, mem_wLs.mpr ⟨by simpa using h1, fun c hc => h2 c (List.mem_cons_of_mem _ hc)⟩, rfl⟩⟩
theorem wLs_nodup {t : List Row} (ht : Tab t) : ∀ k, (wLs t k).Nodup
  | 0 => by simp [wLs]
  | k + 1 => by
    show ((lets t).flatMap fun b => (wLs t k).map fun w => b :: w).Nodup
    have fm : ∀ ls : List Nat, ls.Nodup → (ls.flatMap fun b => (wLs t k).map fun w => b :: w).Nodup := fun ls => by
      induction ls with
      | nil => intro _; simp
      | cons b ls ih =>
        intro h
        rw [List.nodup_cons] at h
        rw [List.flatMap_cons]
        refine List.nodup_append.mpr ⟨List.Pairwise.map _ (fun a b h z => h (by injection z)) (wLs_nodup ht k), ih h.2, fun x hx y hy e => ?_⟩
        obtain ⟨v, _, rfl⟩ := List.mem_map.mp hx
        obtain ⟨c, hc, h'⟩ := List.mem_flatMap.mp hy
        obtain ⟨v', _, e'⟩ := List.mem_map.mp h'
        rw [← e'] at e
        injection e with e1 _
        exact h.1 (by rw [e1]; exact hc)
    exact fm _ (lets_nd ht)
end WB.C
namespace WB.C
open WB
def kp (ps : List Pc) : D := .tup (ps.map pcD)
section
variable {α : Type} [DecidableEq α]
end
def Rp (t : List Row) (s : List Nat) (ps : List Pc) : Prop := ∀ p, p ∈ ps ↔ Sem t s p
end WB.C
namespace WB.C
open WB
abbrev Bt := List (List Pc × Nat)
structure BT (t : List Row) (o : Objs) (kb i : Nat) (L : Bt) : Prop where
  nd : o[kb]? = some (.nd false (enA kp nD L))
  keys : (L.map (·.1)).Nodup
  rp : ∀ e ∈ L, (∃ s : List Nat, s.length = i ∧ Rp t s e.1) ∧ e.1.length ≤ 59
  len : L.length ≤ 21 ^ i
section
variable {t : List Row} (f : Fit t) {sg : List Nat}
include f
end
end WB.C
namespace WB.C
open WB
section
variable {t : List Row} (f : Fit t)
include f
end
end WB.C
namespace WB.C
open WB
theorem x_lset {Φ : Fns} {F : Nat} {m : Slots} (i : Nat) (k v : E) (o : Objs) : exS Φ F (.lset i k v) m o = seqR (evE Φ v m o) fun y => L1 (fun x => L1 (fun k => L1 (fun z => pure (Fl.next (m.set i (some z)))) (setLM x k y)) (evE Φ k m)) (slotM m i) := by
  show (evE Φ v m >>= _) o = _
  rw [bnd_ap]
  rfl
theorem ways_loop {a : Nat} (ha : a ≤ 10) : ∀ (xs : List D) (b : Nat) (x1 x3 : Option D), ∃ y3, forX (tab []) 1000 (.name 3) [.set 2 (.bin .mul (.slot 2) (.slot 0))] [some (.int (a : Nat)), x1, some (.int (b : Nat)), x3] xs = pure (.next [some (.int (a : Nat)), x1, some (.int ((b * a ^ xs.length : Nat) : Int)), y3])
  | [], b, x1, x3 => ⟨x3, by rw [List.length_nil, Nat.pow_zero, Nat.mul_one]; rfl⟩
  | x :: xs, b, x1, x3 => by
    obtain ⟨y3, e⟩ := ways_loop ha xs (b * a) x1 (some x)
    refine ⟨y3, ?_⟩
    funext o
    have mu : opM .mul (.int (b : Nat)) (.int (a : Nat)) = pure (.int ((b * a : Nat) : Int)) := by
      rw [o_mulI _ _ (by
        have : inR ((a : Nat) : Int) = true := by simp [inR]; omega
        rw [this, Bool.or_true])]
      congr 2
    rw [for_cons]
    have ex : exL (tab []) 1000 [.set 2 (.bin .mul (.slot 2) (.slot 0))] (([some (.int (a : Nat)), x1, some (.int (b : Nat)), x3] : Slots).set 3 (some x)) o = .ok (.next [some (.int (a : Nat)), x1, some (.int ((b * a : Nat) : Int)), some x]) o := by
      simp only [EV1, EV2, EV3, EV4, mu]
    rw [ex, seqR_ok, forF_next, e, List.length_cons, Nat.pow_succ, Nat.mul_assoc, Nat.mul_comm a]
theorem ways_ok {a k : Nat} (ha : a ≤ 10) (hk : k ≤ 1000) : d_ways_of [.int (a : Nat), .int (k : Nat)] = pure (.int ((a ^ k : Nat) : Int)) := by
  have er : rngM [.int (k : Nat)] = pure ((List.range k).map fun (i : Nat) => D.int (i : Int)) := rngM1 k (by omega)
  obtain ⟨y3, e⟩ := ways_loop ha ((List.range k).map fun (i : Nat) => D.int (i : Int)) 1 (some (.int (k : Nat))) none
  rw [List.length_map, List.length_range, Nat.one_mul] at e
  have e' : forX (tab []) 1000 (.name 3) [.set 2 (.bin .mul (.slot 2) (.slot 0))] [some (.int (a : Nat)), some (.int (k : Nat)), some (.int 1), none] ((List.range k).map fun (i : Nat) => D.int (i : Int)) = _ := e
  funext o
  unfold d_ways_of c_ways_of
  rw [den2, L1_ap]
  simp only [Nat.reduceSub, List.replicate, EV1, EV2, EV3, EV4, er, e']
abbrev Λrs : Fns := tab [d_look_table, d_look_whole, d_letters_of, d_row_for, d_ways_of]
def bS1 : List S := [.set 8 (.bin .add (.bin .add (.cst (.int 1)) (.blt .int1 [.bin .ne (.slot 5) (.cst (.str [35]))])) (.blt .int1 [.bin .ne (.slot 7) (.cst (.str [35]))])), .set 9 (.call 3 [.slot 0, .slot 5, .slot 6, .slot 7]), .lset 3 (.slot 9) (.bin .add (.idx (.slot 3) (.slot 9)) (.call 4 [.blt .len [.slot 2], .bin .sub (.slot 1) (.slot 8)]))]
def bS2 : List S := [.forS (.name 7) (.ival (.ite (.bin .lt (.slot 4) (.bin .sub (.slot 1) (.cst (.int 1)))) (.slot 2) (.lst [.cst (.str [35])]))) bS1]
def bS3 : List S := [.forS (.name 6) (.ival (.slot 2)) bS2]
def bS4 : List S := [.forS (.name 5) (.ival (.ite (.bin .gt (.slot 4) (.cst (.int 0))) (.slot 2) (.lst [.cst (.str [35])]))) bS3]
theorem shares_code : c_row_shares = [.expr (.call 0 [.slot 0]), .expr (.call 1 [.slot 1, .cst (.int 24)]), .set 2 (.call 2 [.slot 0]), .setO 3 (.bin .mul (.lst [.cst (.int 0)]) (.blt .len [.slot 0])), .forS (.name 4) (.irng [.slot 1]) bS4, .ret (.slot 3)] := rfl
section
variable {t : List Row} (ht : Tab t) {n : Nat} (hn : 3 ≤ n) (hn2 : n ≤ 24)
def P1 (t : List Row) (n p a l : Nat) (m : Slots) : Prop := ∃ (is : List Int) (x7 x8 x9 : Option D), is.length = t.length ∧ m = [some (tabD t), some (.int (n : Nat)), some (.lst (letD (lets t))), some (.lst (is.map D.int)), some (.int (p : Nat)), some (.str [a]), some (.str [l]), x7, x8, x9]
def P2 (t : List Row) (n p a : Nat) (m : Slots) : Prop := ∃ (is : List Int) (x6 x7 x8 x9 : Option D), is.length = t.length ∧ m = [some (tabD t), some (.int (n : Nat)), some (.lst (letD (lets t))), some (.lst (is.map D.int)), some (.int (p : Nat)), some (.str [a]), x6, x7, x8, x9]
include ht hn hn2
end
end WB.C
namespace WB.C
open WB
def adZ (is : List Nat) (q : Nat × Nat) : List Nat := is.set q.1 (is.getD q.1 0 + q.2)
def adA (is : List Nat) (qs : List (Nat × Nat)) : List Nat := qs.foldl adZ is
theorem adZ_len (is : List Nat) (q : Nat × Nat) : (adZ is q).length = is.length := List.length_set
theorem adA_len : ∀ (qs : List (Nat × Nat)) (is : List Nat), (adA is qs).length = is.length
  | [], _ => rfl
  | q :: qs, is => by
    show (adA (adZ is q) qs).length = _
    rw [adA_len qs, adZ_len]
theorem adA_app (is : List Nat) (a b : List (Nat × Nat)) : adA (adA is a) b = adA is (a ++ b) := by
  unfold adA
  rw [List.foldl_append]
def atR (r : Nat) (qs : List (Nat × Nat)) : Nat := (qs.map fun q => if q.1 = r then q.2 else 0).sum
theorem adZ_get (is : List Nat) (q : Nat × Nat) (r : Nat) (hr : r < is.length) : (adZ is q).getD r 0 = is.getD r 0 + if q.1 = r then q.2 else 0 := by
  unfold adZ
  rw [List.getD_eq_getElem?_getD, List.getD_eq_getElem?_getD, List.getElem?_set]
  by_cases c : q.1 = r
  · subst c
    rw [if_pos rfl, if_pos hr, if_pos rfl, List.getD_eq_getElem?_getD]
    rfl
  · rw [if_neg c, if_neg c, Nat.add_zero, List.getD_eq_getElem?_getD]
theorem adA_get : ∀ (qs : List (Nat × Nat)) (is : List Nat) (r : Nat), r < is.length → (adA is qs).getD r 0 = is.getD r 0 + atR r qs
  | [], is, r, _ => rfl
  | q :: qs, is, r, hr => by
    show (adA (adZ is q) qs).getD r 0 = _
    rw [adA_get qs _ r (by rw [adZ_len]; exact hr), adZ_get is q r hr]
    show _ = is.getD r 0 + ((if q.1 = r then q.2 else 0) + atR r qs)
    omega
theorem for_fold {Φ : Fns} {F i : Nat} {body : List S} {o : Objs} {α β : Type} {kf : α → D} {P : β → Slots → Prop} {g : β → α → β} : ∀ (xs : List α) (b : β) (m : Slots), P b m → (∀ x ∈ xs, ∀ b m, P b m → ∃ m', exL Φ F body (m.set i (some (kf x))) o = .ok (.next m') o ∧ P (g b x) m') → ∃ m', forX Φ F (.name i) body m (xs.map kf) o = .ok (.next m') o ∧ P (xs.foldl g b) m'
  | [], b, m, p, _ => ⟨m, rfl, p⟩
  | x :: xs, b, m, p, h => by
    obtain ⟨m1, e1, p1⟩ := h x (by simp) b m p
    obtain ⟨m2, e2, p2⟩ := for_fold xs (g b x) m1 p1 fun y hy => h y (List.mem_cons_of_mem _ hy)
    exact ⟨m2, by rw [List.map_cons, for_cons, e1, seqR_ok, forF_next, e2], p2⟩
section
variable (t : List Row) (n : Nat)
def fxN (a b : Nat) : Nat := 1 + (if a = 35 then 0 else 1) + (if b = 35 then 0 else 1)
def ctx1 (a l b : Nat) : Nat × Nat := (rf t a l b, (lets t).length ^ (n - fxN a b))
def behL (p : Nat) : List Nat := if p < n - 1 then lets t else [35]
def aheL (p : Nat) : List Nat := if 0 < p then lets t else [35]
def ctx2 (p a l : Nat) : List (Nat × Nat) := (behL t n p).map (ctx1 t n a l)
def ctx3 (p a : Nat) : List (Nat × Nat) := (lets t).flatMap (ctx2 t n p a)
def ctx4 (p : Nat) : List (Nat × Nat) := (aheL t p).flatMap (ctx3 t n p)
def ctxN : List (Nat × Nat) := (List.range n).flatMap (ctx4 t n)
end
theorem foldl_adA {α : Type} (f : α → List (Nat × Nat)) : ∀ (xs : List α) (is : List Nat), xs.foldl (fun is x => adA is (f x)) is = adA is (xs.flatMap f)
  | [], _ => rfl
  | x :: xs, is => by
    rw [List.foldl_cons, foldl_adA f xs, List.flatMap_cons, adA_app]
section
variable {t : List Row} (ht : Tab t) {n : Nat} (hn2 : n ≤ 24)
def Q1 (t : List Row) (n p a l : Nat) (is : List Nat) (m : Slots) : Prop := ∃ (x7 x8 x9 : Option D), is.length = t.length ∧ m = [some (tabD t), some (.int (n : Nat)), some (.lst (letD (lets t))), some (.lst (intsD is)), some (.int (p : Nat)), some (.str [a]), some (.str [l]), x7, x8, x9]
def Q2 (t : List Row) (n p a : Nat) (is : List Nat) (m : Slots) : Prop := ∃ (x6 x7 x8 x9 : Option D), is.length = t.length ∧ m = [some (tabD t), some (.int (n : Nat)), some (.lst (letD (lets t))), some (.lst (intsD is)), some (.int (p : Nat)), some (.str [a]), x6, x7, x8, x9]
def Q3_ (t : List Row) (n p : Nat) (is : List Nat) (m : Slots) : Prop := ∃ (x5 x6 x7 x8 x9 : Option D), is.length = t.length ∧ m = [some (tabD t), some (.int (n : Nat)), some (.lst (letD (lets t))), some (.lst (intsD is)), some (.int (p : Nat)), x5, x6, x7, x8, x9]
def Q4 (t : List Row) (n : Nat) (is : List Nat) (m : Slots) : Prop := ∃ (x4 x5 x6 x7 x8 x9 : Option D), is.length = t.length ∧ m = [some (tabD t), some (.int (n : Nat)), some (.lst (letD (lets t))), some (.lst (intsD is)), x4, x5, x6, x7, x8, x9]
include ht hn2
theorem q_turn {p a l b : Nat} (hl : l ∈ lets t) (hd : fxN a b ≤ n) (o : Objs) (is : List Nat) (m : Slots) (h : Q1 t n p a l is m) : ∃ m', exL Λrs 1000 bS1 (m.set 7 (some (.str [b]))) o = .ok (.next m') o ∧ Q1 t n p a l (adZ is (ctx1 t n a l b)) m' := by
  obtain ⟨x7, x8, x9, il, rfl⟩ := h
  have n10 := ht.n10
  have hrf := ok_row_for (a := a) (b := b) (ht.has l hl) (by omega)
  have lt := (rf_some (a := a) (b := b) (ht.has l hl)).2
  have l10 := ht.lets1.2
  have q1 := o_ne (eq_str [a] [35])
  have q2 := o_ne (eq_str [b] [35])
  have bl : blt1M .len (.lst (letD (lets t))) = pure (.int ((lets t).length : Nat)) := by rw [b_lenL]; unfold letD; rw [List.length_map]
  have ed : (1 : Int) + b2n (!([a] == [35])) + b2n (!([b] == [35])) = (fxN a b : Nat) := by
    unfold fxN
    rw [beq1, beq1]
    by_cases c : a = 35 <;> by_cases d : b = 35 <;> simp [c, d, b2n]
  have es : ((n : Nat) : Int) - ((fxN a b : Nat) : Int) = ((n - fxN a b : Nat) : Int) := by omega
  have wy := ways_ok (a := (lets t).length) (k := n - fxN a b) l10 (by omega)
  have il' : rf t a l b < is.length := by rw [il]; exact lt
  have ix : idxM (.lst (intsD is)) (.int (rf t a l b : Nat)) = pure (.int (is.getD (rf t a l b) 0 : Nat)) := by
    refine i_lst ?_
    rw [at_nat _ _ (by rw [intsD_len]; exact il')]
    simp [intsD, List.getD_eq_getElem?_getD, il']
  have st : ∀ y : Nat, setLM (.lst (intsD is)) (.int (rf t a l b : Nat)) (.int (y : Nat)) = pure (.lst (intsD (is.set (rf t a l b) y))) := fun y => by
    have ij : ixD (intsD is).length ((rf t a l b : Nat) : Int) = some (rf t a l b) := by
      unfold ixD
      rw [intsD_len, if_pos (by omega), if_pos (by omega)]
      rfl
    show (match ixD (intsD is).length ((rf t a l b : Nat) : Int) with | some j => pure (D.lst ((intsD is).set j (.int (y : Nat)))) | none => M.fail) = _
    rw [ij]
    unfold intsD
    rw [List.map_set]
  have ad : ((is.getD (rf t a l b) 0 : Nat) : Int) + (((lets t).length ^ (n - fxN a b) : Nat) : Int) = ((is.getD (rf t a l b) 0 + (lets t).length ^ (n - fxN a b) : Nat) : Int) := by omega
  have sl : ∀ x4 x5 x6 x7 x8 x9 : Option D, slotM [some (tabD t), some (.int (n : Nat)), some (.lst (letD (lets t))), some (.lst (intsD is)), x4, x5, x6, x7, x8, x9] 3 = pure (.lst (intsD is)) := fun _ _ _ _ _ _ => rfl
  have st' := st (is.getD (rf t a l b) 0 + (lets t).length ^ (n - fxN a b))
  refine ⟨_, ?_, some (.str [b]), some (.int (fxN a b : Nat)), some (.int (rf t a l b : Nat)), by rw [adZ_len, il], rfl⟩
  unfold bS1
  simp only [EV1, EV2, EV3, EV4, x_lset, q1, q2, b_intB, ed, hrf, bl, es, wy, ix, ad, sl, st']
  rfl
theorem q_loop2 {p a l : Nat} (hp : p < n) (ha : a ∈ aheL t p) (hl : l ∈ lets t) (o : Objs) (is : List Nat) (m : Slots) (h : Q1 t n p a l is m) : ∃ m', exL Λrs 1000 bS2 m o = .ok (.next m') o ∧ Q1 t n p a l (adA is (ctx2 t n p a l)) m' := by
  have no35 : ∀ c ∈ lets t, c ≠ 35 := fun c hc => WB.C.no35 ht hc
  have fx : ∀ b ∈ behL t n p, fxN a b ≤ n := fun b hb => by
    unfold fxN
    unfold aheL at ha
    unfold behL at hb
    by_cases c1 : 0 < p
    · by_cases c2 : p < n - 1
      · have : (1 + (if a = 35 then 0 else 1) + (if b = 35 then 0 else 1)) ≤ 3 := by split <;> split <;> decide
        omega
      · rw [if_neg c2] at hb
        have := List.mem_singleton.mp hb
        have : (1 + (if a = 35 then 0 else 1) + (if b = 35 then 0 else 1)) ≤ 2 := by rw [if_pos this]; split <;> decide
        omega
    · rw [if_neg c1] at ha
      have ea := List.mem_singleton.mp ha
      by_cases c2 : p < n - 1
      · have : (1 + (if a = 35 then 0 else 1) + (if b = 35 then 0 else 1)) ≤ 2 := by rw [if_pos ea]; split <;> decide
        omega
      · rw [if_neg c2] at hb
        have := List.mem_singleton.mp hb
        rw [if_pos ea, if_pos this]
        omega
  have key := for_fold (Φ := Λrs) (F := 1000) (i := 7) (body := bS1) (o := o) (kf := fun b : Nat => D.str [b]) (P := Q1 t n p a l) (g := fun is b => adZ is (ctx1 t n a l b)) (behL t n p) is m h fun b hb is m' h' => q_turn ht hn2 hl (fx b hb) o is m' h'
  obtain ⟨m', e, pm⟩ := key
  have ef : (behL t n p).foldl (fun is b => adZ is (ctx1 t n a l b)) is = adA is (ctx2 t n p a l) := by
    unfold adA ctx2
    rw [List.foldl_map]
  rw [ef] at pm
  obtain ⟨x7, x8, x9, il, rfl⟩ := h
  have es : ((n : Nat) : Int) - 1 = ((n - 1 : Nat) : Int) := by omega
  refine ⟨m', ?_, pm⟩
  unfold behL at e
  by_cases c : p < n - 1
  · rw [if_pos c] at e
    have d1 : decide (((p : Nat) : Int) < ((n - 1 : Nat) : Int)) = true := decide_eq_true (by omega)
    have e' : forX Λrs 1000 (.name 7) bS1 [some (tabD t), some (.int (n : Nat)), some (.lst (letD (lets t))), some (.lst (intsD is)), some (.int (p : Nat)), some (.str [a]), some (.str [l]), x7, x8, x9] (letD (lets t)) o = _ := e
    unfold bS2
    simp only [EV1, EV2, EV3, EV4, es, d1, e']
  · rw [if_neg c] at e
    have d1 : decide (((p : Nat) : Int) < ((n - 1 : Nat) : Int)) = false := decide_eq_false (by omega)
    have e' : forX Λrs 1000 (.name 7) bS1 [some (tabD t), some (.int (n : Nat)), some (.lst (letD (lets t))), some (.lst (intsD is)), some (.int (p : Nat)), some (.str [a]), some (.str [l]), x7, x8, x9] [.str [35]] o = _ := e
    unfold bS2
    simp only [EV1, EV2, EV3, EV4, es, d1, lstM1, e']
theorem q_loop3 {p a : Nat} (hp : p < n) (ha : a ∈ aheL t p) (o : Objs) (is : List Nat) (m : Slots) (h : Q2 t n p a is m) : ∃ m', exL Λrs 1000 bS3 m o = .ok (.next m') o ∧ Q2 t n p a (adA is (ctx3 t n p a)) m' := by
  have key := for_fold (Φ := Λrs) (F := 1000) (i := 6) (body := bS2) (o := o) (kf := fun l : Nat => D.str [l]) (P := Q2 t n p a) (g := fun is l => adA is (ctx2 t n p a l)) (lets t) is m h fun l hl is m' h' => by
    obtain ⟨x6, x7, x8, x9, il, rfl⟩ := h'
    obtain ⟨m2, e, y7, y8, y9, jl, rfl⟩ := q_loop2 ht hn2 hp ha hl o is _ ⟨x7, x8, x9, il, rfl⟩
    exact ⟨_, e, _, y7, y8, y9, jl, rfl⟩
  obtain ⟨m', e, pm⟩ := key
  rw [foldl_adA (ctx2 t n p a)] at pm
  obtain ⟨x6, x7, x8, x9, il, rfl⟩ := h
  have e' : forX Λrs 1000 (.name 6) bS2 [some (tabD t), some (.int (n : Nat)), some (.lst (letD (lets t))), some (.lst (intsD is)), some (.int (p : Nat)), some (.str [a]), x6, x7, x8, x9] (letD (lets t)) o = _ := e
  refine ⟨m', ?_, pm⟩
  unfold bS3
  simp only [EV1, EV2, EV3, EV4, e']
theorem q_loop4 {p : Nat} (hp : p < n) (o : Objs) (is : List Nat) (m : Slots) (h : Q3_ t n p is m) : ∃ m', exL Λrs 1000 bS4 m o = .ok (.next m') o ∧ Q3_ t n p (adA is (ctx4 t n p)) m' := by
  have key := for_fold (Φ := Λrs) (F := 1000) (i := 5) (body := bS3) (o := o) (kf := fun a : Nat => D.str [a]) (P := Q3_ t n p) (g := fun is a => adA is (ctx3 t n p a)) (aheL t p) is m h fun a ha is m' h' => by
    obtain ⟨x5, x6, x7, x8, x9, il, rfl⟩ := h'
    obtain ⟨m2, e, y6, y7, y8, y9, jl, rfl⟩ := q_loop3 ht hn2 hp ha o is _ ⟨x6, x7, x8, x9, il, rfl⟩
    exact ⟨_, e, _, y6, y7, y8, y9, jl, rfl⟩
  obtain ⟨m', e, pm⟩ := key
  rw [foldl_adA (ctx3 t n p)] at pm
  obtain ⟨x5, x6, x7, x8, x9, il, rfl⟩ := h
  refine ⟨m', ?_, pm⟩
  unfold aheL at e
  by_cases c : 0 < p
  · rw [if_pos c] at e
    have d1 : decide ((0 : Int) < ((p : Nat) : Int)) = true := decide_eq_true (by omega)
    have e' : forX Λrs 1000 (.name 5) bS3 [some (tabD t), some (.int (n : Nat)), some (.lst (letD (lets t))), some (.lst (intsD is)), some (.int (p : Nat)), x5, x6, x7, x8, x9] (letD (lets t)) o = _ := e
    unfold bS4
    simp only [EV1, EV2, EV3, EV4, d1, e']
  · rw [if_neg c] at e
    have d1 : decide ((0 : Int) < ((p : Nat) : Int)) = false := decide_eq_false (by omega)
    have e' : forX Λrs 1000 (.name 5) bS3 [some (tabD t), some (.int (n : Nat)), some (.lst (letD (lets t))), some (.lst (intsD is)), some (.int (p : Nat)), x5, x6, x7, x8, x9] [.str [35]] o = _ := e
    unfold bS4
    simp only [EV1, EV2, EV3, EV4, d1, lstM1, e']
theorem shares_ok (o : Objs) : d_row_shares [tabD t, .int (n : Nat)] o = .ok (.lst (intsD (adA (List.replicate t.length 0) (ctxN t n)))) o := by
  have lk := ht.look
  have lw : d_look_whole [.int (n : Nat), .int 24] = pure .non := look_most (m := 24) hn2
  have lt := ok_letters_of t (by have := ht.n10; omega)
  have n10 := ht.n10
  have er : rngM [.int (n : Nat)] = pure ((List.range n).map fun (k : Nat) => D.int (k : Int)) := rngM1 n (by omega)
  have bl : blt1M .len (tabD t) = pure (.int (t.length : Nat)) := by
    show pure (D.int (((t.map rowD).length : Nat) : Int)) = _
    rw [List.length_map]
  have mu : opM .mul (.lst [.int 0]) (.int (t.length : Nat)) = pure (.lst (intsD (List.replicate t.length 0))) := by
    show (if (0 : Int) ≤ ((t.length : Nat) : Int) ∧ ((t.length : Nat) : Int) ≤ 1000 ∧ [D.int 0].length ≤ 1000 then pure (D.lst (rep ((t.length : Nat) : Int).toNat [D.int 0])) else M.fail) = _
    rw [if_pos ⟨by omega, by omega, by decide⟩]
    have : ∀ k : Nat, rep k [D.int 0] = intsD (List.replicate k 0) := fun k => by
      induction k with
      | zero => rfl
      | succ k ih =>
        show [D.int 0] ++ rep k [D.int 0] = _
        rw [ih]
        rfl
    rw [Int.toNat_natCast, this]
  obtain ⟨m', e, pm⟩ := for_fold (Φ := Λrs) (F := 1000) (i := 4) (body := bS4) (o := o) (kf := fun k : Nat => D.int (k : Int)) (P := Q4 t n) (g := fun is p => adA is (ctx4 t n p)) (List.range n) (List.replicate t.length 0) [some (tabD t), some (.int (n : Nat)), some (.lst (letD (lets t))), some (.lst (intsD (List.replicate t.length 0))), none, none, none, none, none, none] ⟨_, _, _, _, _, _, List.length_replicate, rfl⟩ (fun p hp is m h => by
    have hp' := List.mem_range.mp hp
    obtain ⟨x4, x5, x6, x7, x8, x9, il, rfl⟩ := h
    obtain ⟨m2, e, y5, y6, y7, y8, y9, jl, rfl⟩ := q_loop4 ht hn2 hp' o is _ ⟨x5, x6, x7, x8, x9, il, rfl⟩
    exact ⟨_, e, _, y5, y6, y7, y8, y9, jl, rfl⟩)
  rw [foldl_adA (ctx4 t n)] at pm
  obtain ⟨x4, x5, x6, x7, x8, x9, il, rfl⟩ := pm
  unfold d_row_shares
  rw [shares_code, den2, L1_ap]
  simp only [Nat.reduceSub, List.replicate, EV1, EV2, EV3, EV4, lk, lw, lt, lstM1, bl, mu, er, e]
  rfl
end
end WB.C
namespace WB.C
open WB
def ruW (t : List Row) : Nat → List Nat → List Nat
  | _, [] => []
  | a, l :: w => rf t a l (w.headD 35) :: ruW t l w
def sS (t : List Row) (k a r : Nat) : Nat := ((wLs t k).map fun w => (ruW t a w).count r).sum
def one_ (t : List Row) (a l b r : Nat) : Nat := if rf t a l b = r then 1 else 0
def hdS (t : List Row) (k a r : Nat) : Nat := ((lets t).map fun l => if k = 1 then one_ t a l 35 r else ((lets t).map fun b => one_ t a l b r * (lets t).length ^ (k - 2)).sum).sum
theorem sum_flatMap {α β : Type} (f : α → List β) (g : β → Nat) : ∀ l : List α, ((l.flatMap f).map g).sum = (l.map fun x => ((f x).map g).sum).sum
  | [] => rfl
  | x :: l => by rw [List.flatMap_cons, List.map_append, List.sum_append, sum_flatMap f g l, List.map_cons, List.sum_cons]
theorem sum_const {α : Type} (c : Nat) : ∀ l : List α, (l.map fun _ => c).sum = l.length * c
  | [] => by simp
  | x :: l => by rw [List.map_cons, List.sum_cons, sum_const c l, List.length_cons, Nat.succ_mul, Nat.add_comm]
theorem wLs_len (t : List Row) : ∀ k, (wLs t k).length = (lets t).length ^ k
  | 0 => rfl
  | k + 1 => by
    show ((lets t).flatMap fun b => (wLs t k).map fun w => b :: w).length = _
    have : ∀ ls : List Nat, (ls.flatMap fun b => (wLs t k).map fun w => b :: w).length = ls.length * (wLs t k).length := fun ls => by
      induction ls with
      | nil => simp
      | cons b ls ih => rw [List.flatMap_cons, List.length_append, ih, List.length_map, List.length_cons, Nat.succ_mul, Nat.add_comm]
    rw [this, wLs_len t k, Nat.pow_succ, Nat.mul_comm]
theorem head_sum (t : List Row) (a l r : Nat) (k : Nat) : ((wLs t k).map fun v => one_ t a l (v.headD 35) r).sum = if k = 0 then one_ t a l 35 r else ((lets t).map fun b => one_ t a l b r * (lets t).length ^ (k - 1)).sum := by
  cases k with
  | zero =>
    rw [if_pos rfl]
    show ([[]].map fun v : List Nat => one_ t a l (v.headD 35) r).sum = _
    simp
  | succ k =>
    rw [if_neg (by omega)]
    show (((lets t).flatMap fun b => (wLs t k).map fun w => b :: w).map fun v => one_ t a l (v.headD 35) r).sum = _
    rw [sum_flatMap]
    congr 1
    refine List.map_congr_left fun b _ => ?_
    rw [List.map_map]
    have : ((fun v : List Nat => one_ t a l (v.headD 35) r) ∘ fun w => b :: w) = fun _ => one_ t a l b r := rfl
    rw [this, sum_const, wLs_len, Nat.mul_comm]
    rfl
theorem sS_succ (t : List Row) (k a r : Nat) : sS t (k + 1) a r = hdS t (k + 1) a r + ((lets t).map fun l => sS t k l r).sum := by
  unfold sS hdS
  show (((lets t).flatMap fun b => (wLs t k).map fun w => b :: w).map fun w => (ruW t a w).count r).sum = _
  rw [sum_flatMap, ← sum_addF]
  congr 1
  refine List.map_congr_left fun l _ => ?_
  rw [List.map_map]
  have e : ((fun w => (ruW t a w).count r) ∘ fun w => l :: w) = fun v => one_ t a l (v.headD 35) r + (ruW t l v).count r := by
    funext v
    show (rf t a l (v.headD 35) :: ruW t l v).count r = _
    rw [List.count_cons]
    unfold one_
    by_cases c : rf t a l (v.headD 35) = r
    · rw [if_pos (beq_iff_eq.mpr c), if_pos c, Nat.add_comm]
    · rw [if_neg (fun z => c (beq_iff_eq.mp z)), if_neg c, Nat.add_zero, Nat.zero_add]
  rw [e, sum_addF, head_sum]
  congr 1
  by_cases c : k = 0
  · subst c; rfl
  · rw [if_neg c, if_neg (by omega)]
    rfl
def tT_ (t : List Row) (k r : Nat) : Nat := ((lets t).map fun a => sS t k a r).sum
def hT_ (t : List Row) (k r : Nat) : Nat := ((lets t).map fun a => hdS t k a r).sum
theorem tT_succ (t : List Row) (k r : Nat) : tT_ t (k + 1) r = hT_ t (k + 1) r + (lets t).length * tT_ t k r := by
  unfold tT_ hT_
  have e : (fun a => sS t (k + 1) a r) = fun a => hdS t (k + 1) a r + ((lets t).map fun l => sS t k l r).sum := funext fun a => sS_succ t k a r
  rw [e, sum_addF, sum_const]
theorem tT_sum (t : List Row) (r : Nat) : ∀ k, tT_ t k r = ((List.range k).map fun j => (lets t).length ^ j * hT_ t (k - j) r).sum
  | 0 => by
    unfold tT_ sS
    show ((lets t).map fun a => ([[]].map fun w => (ruW t a w).count r).sum).sum = 0
    have : (fun a => ([[]].map fun w => (ruW t a w).count r).sum) = fun _ : Nat => 0 := rfl
    rw [this, sum_zero]
  | k + 1 => by
    rw [tT_succ, tT_sum t r k, List.range_succ_eq_map, List.map_cons, List.sum_cons, List.map_map, ← sum_mulF]
    show _ = (lets t).length ^ 0 * hT_ t (k + 1) r + _
    rw [Nat.pow_zero, Nat.one_mul]
    congr 2
    refine List.map_congr_left fun j _ => ?_
    show (lets t).length * ((lets t).length ^ j * hT_ t (k - j) r) = (lets t).length ^ (j + 1) * hT_ t (k + 1 - (j + 1)) r
    rw [Nat.pow_succ, ← Nat.mul_assoc, Nat.mul_comm (lets t).length, Nat.add_sub_add_right]
theorem atR_app (r : Nat) (a b : List (Nat × Nat)) : atR r (a ++ b) = atR r a + atR r b := by
  unfold atR
  rw [List.map_append, List.sum_append]
theorem atR_fm {α : Type} (r : Nat) (f : α → List (Nat × Nat)) : ∀ l : List α, atR r (l.flatMap f) = (l.map fun x => atR r (f x)).sum
  | [] => rfl
  | x :: l => by rw [List.flatMap_cons, atR_app, atR_fm r f l, List.map_cons, List.sum_cons]
theorem atR_map {α : Type} (r : Nat) (f : α → Nat × Nat) (l : List α) : atR r (l.map f) = (l.map fun x => if (f x).1 = r then (f x).2 else 0).sum := by
  unfold atR
  rw [List.map_map]
  rfl
theorem ctx_one (t : List Row) (n a l b r : Nat) : (if (ctx1 t n a l b).1 = r then (ctx1 t n a l b).2 else 0) = one_ t a l b r * (lets t).length ^ (n - fxN a b) := by
  unfold ctx1 one_
  dsimp only
  by_cases c : rf t a l b = r
  · rw [if_pos c, if_pos c, Nat.one_mul]
  · rw [if_neg c, if_neg c, Nat.zero_mul]
theorem ctx3_at {t : List Row} (ht : Tab t) {n p a r : Nat} (hp : p < n) (ha : a ∈ aheL t p) : atR r (ctx3 t n p a) = (lets t).length ^ (p - 1) * hdS t (n - p) a r := by
  have n35 : ∀ c ∈ lets t, c ≠ 35 := fun c hc => WB.C.no35 ht hc
  unfold ctx3
  rw [atR_fm]
  unfold hdS
  rw [← sum_mulF]
  congr 1
  refine List.map_congr_left fun l _ => ?_
  unfold ctx2
  rw [atR_map]
  have ah : (if a = 35 then 0 else 1) + (p - 1) = p := by
    unfold aheL at ha
    by_cases c : 0 < p
    · rw [if_pos c] at ha
      rw [if_neg (n35 a ha)]
      omega
    · rw [if_neg c] at ha
      rw [if_pos (List.mem_singleton.mp ha)]
      omega
  unfold behL
  by_cases c : p < n - 1
  · rw [if_pos c, if_neg (show ¬ n - p = 1 by omega), ← sum_mulF]
    congr 1
    refine List.map_congr_left fun b hb => ?_
    rw [ctx_one]
    have fx : n - fxN a b = (p - 1) + (n - p - 2) := by
      unfold fxN
      rw [if_neg (n35 b hb)]
      omega
    rw [fx, Nat.pow_add, ← Nat.mul_assoc, Nat.mul_comm (one_ t a l b r), Nat.mul_assoc]
  · rw [if_neg c, if_pos (show n - p = 1 by omega), List.map_cons, List.map_nil, List.sum_singleton, ctx_one]
    have fx : n - fxN a 35 = p - 1 := by
      unfold fxN
      rw [if_pos rfl]
      omega
    rw [fx, Nat.mul_comm]
theorem ctxN_at {t : List Row} (ht : Tab t) (n r : Nat) : atR r (ctxN t n) = sS t n 35 r := by
  unfold ctxN
  rw [atR_fm]
  cases n with
  | zero =>
    unfold sS
    rfl
  | succ k =>
    rw [List.range_succ_eq_map, List.map_cons, List.sum_cons, List.map_map, sS_succ]
    have e0 : atR r (ctx4 t (k + 1) 0) = hdS t (k + 1) 35 r := by
      unfold ctx4
      have : aheL t 0 = [35] := rfl
      rw [this, List.flatMap_cons, List.flatMap_nil, List.append_nil, ctx3_at ht (by omega) (by rw [this]; simp)]
      show (lets t).length ^ 0 * _ = _
      rw [Nat.pow_zero, Nat.one_mul]
      rfl
    rw [e0]
    congr 1
    have e1 := tT_sum t r k
    unfold tT_ at e1
    rw [e1]
    congr 1
    refine List.map_congr_left fun j hj => ?_
    have hj' := List.mem_range.mp hj
    show atR r (ctx4 t (k + 1) (j + 1)) = _
    unfold ctx4
    rw [atR_fm]
    have al : aheL t (j + 1) = lets t := by unfold aheL; rw [if_pos (by omega)]
    unfold hT_
    rw [al, ← sum_mulF]
    congr 1
    refine List.map_congr_left fun a ha => ?_
    rw [ctx3_at ht (by omega) (by rw [al]; exact ha), show k + 1 - (j + 1) = k - j by omega]
    rfl
end WB.C
namespace WB.C
open WB
theorem ruW_tr (t : List Row) : ∀ (w : List Nat) (a : Nat), ((trA a w).map fun x => rf t x.1 x.2.1 x.2.2) = ruW t a w
  | [], _ => rfl
  | l :: w, a => by
    rw [trA_cons, List.map_cons, ruW_tr t w l]
    cases w <;> rfl
theorem ru_W (t : List Row) (w : List Nat) : ru t w = ruW t 35 w := ruW_tr t w 35
theorem ruW_len (t : List Row) : ∀ (w : List Nat) (a : Nat), (ruW t a w).length = w.length
  | [], _ => rfl
  | l :: w, a => by
    show (ruW t l w).length + 1 = w.length + 1
    rw [ruW_len t w l]
end WB.C
namespace WB.K60
open WB WB.C
abbrev Λ : Fns := tab [d__law_table, d__law_letters, d__law_words, d__law_rows_by, d_row_shares, d__law_pick, d__law_power, d_never_used]
def bxO (L : List (List Nat)) : Objs := L.map fun l => .box (.lst (intsD l))
def obD (n : Nat) : List D := (List.range n).map D.obj
theorem obD_len (n : Nat) : (obD n).length = n := by simp [obD]
theorem bx_get {L : List (List Nat)} {k : Nat} (h : k < L.length) : (bxO L)[k]? = some (.box (.lst (intsD (L.getD k [])))) := by
  unfold bxO
  rw [List.getElem?_map, List.getElem?_eq_getElem h, List.getD_eq_getElem?_getD, List.getElem?_eq_getElem h]
  rfl
theorem bx_set (L : List (List Nat)) (k : Nat) (l : List Nat) : (bxO L).set k (.box (.lst (intsD l))) = bxO (L.set k l) := by
  unfold bxO
  rw [List.map_set]
theorem ob_ix {n k : Nat} (h : k < n) : idxM (.lst (obD n)) (.int (k : Nat)) = pure (.obj k) := by
  refine i_lst ?_
  rw [at_nat _ _ (by rw [obD_len]; exact h)]
  unfold obD
  simp [h]
theorem ints_ix (l : List Nat) {r : Nat} (hr : r < l.length) : idxM (.lst (intsD l)) (.int (r : Nat)) = pure (.int (l.getD r 0 : Nat)) := by
  refine i_lst ?_
  rw [at_nat _ _ (by rw [intsD_len]; exact hr)]
  simp [intsD, List.getD_eq_getElem?_getD, hr]
def bseM (m : Slots) (y x i : D) : M Fl := L1 (dropM m) (bupM (fun d => setLM d i y >>= fun z => pure (.non, z)) x)
theorem x_bset {Φ : Fns} {F : Nat} {m : Slots} (a i v : E) : exS Φ F (.bset a i v) m = L3 (bseM m) (evE Φ v m) (evE Φ a m) (evE Φ i m) := rfl
def lS (ns : List Int) (t : List Row) (m : Nat) (x5 x6 x7 x8 x9 x10 x11 : Option D) : Slots := [some (sc ns), some (tabD t), some (.int ((lets t).length : Nat)), some (.int (m : Nat)), some (.lst (obD (m + 1))), x5, x6, x7, x8, x9, x10, x11]
def addW (L : List (List Nat)) (k r : Nat) : List (List Nat) := L.set k (adZ (L.getD k []) (r, 1))
theorem bs_at {L : List (List Nat)} {k r v : Nat} (hk : k < L.length) (hr : r < (L.getD k []).length) : bupM (fun d => setLM d (.int (r : Nat)) (.int (v : Nat)) >>= fun z => pure (.non, z)) (.obj k) (bxO L) = .ok .non (bxO (L.set k ((L.getD k []).set r v))) := by
  rw [bup_at (bx_get hk) (p := (.non, .lst (intsD ((L.getD k []).set r v))))]
  · rw [bx_set]
  · unfold setLM
    dsimp only
    have ij : ixD (intsD (L.getD k [])).length ((r : Nat) : Int) = some r := by
      unfold ixD
      rw [intsD_len, if_pos (by omega), if_pos (by omega)]
      rfl
    rw [ij]
    unfold intsD
    rw [List.map_set]
    rfl
theorem in_turn {ns : List Int} {t : List Row} {m : Nat} {w : List Nat} (hw : w.length ≤ m) (wl : w.length ≤ 1000) {L : List (List Nat)} (hL : L.length = m + 1) {r : Nat} (hr : r < (L.getD w.length []).length) (x6 x7 x8 x10 x11 : Option D) :
    exL Λ 1000 b_law_1 (lS ns t m (some (.str w)) x6 x7 x8 (some (.int (r : Nat))) x10 x11) (bxO L) = .ok (.next (lS ns t m (some (.str w)) x6 x7 x8 (some (.int (r : Nat))) x10 x11)) (bxO (addW L w.length r)) := by
  have ln := b_lenX w (by simp only [sz]; omega)
  have oi := ob_ix (n := m + 1) (k := w.length) (by omega)
  have de := der_at (bx_get (L := L) (k := w.length) (by omega))
  have ix := ints_ix (L.getD w.length []) hr
  have ad : (((L.getD w.length []).getD r 0 : Nat) : Int) + 1 = (((L.getD w.length []).getD r 0 + 1 : Nat) : Int) := by omega
  have bs := bs_at (L := L) (k := w.length) (r := r) (v := (L.getD w.length []).getD r 0 + 1) (by omega) hr
  unfold b_law_1 lS
  simp only [EV1, EV2, EV3, EV4, x_bset, bseM, ln, oi, de, ix, ad, bs]
  rfl
theorem forOb {Φ : Fns} {F i : Nat} {body : List S} {α β : Type} {kf : α → D} {P : β → Slots → Prop} {st : β → Objs} {g : β → α → β} : ∀ (xs : List α) (b : β) (m : Slots), P b m → (∀ x ∈ xs, ∀ b m, P b m → ∃ m', exL Φ F body (m.set i (some (kf x))) (st b) = .ok (.next m') (st (g b x)) ∧ P (g b x) m') → ∃ m', forX Φ F (.name i) body m (xs.map kf) (st b) = .ok (.next m') (st (xs.foldl g b)) ∧ P (xs.foldl g b) m'
  | [], b, m, p, _ => ⟨m, rfl, p⟩
  | x :: xs, b, m, p, h => by
    obtain ⟨m1, e1, p1⟩ := h x (by simp) b m p
    obtain ⟨m2, e2, p2⟩ := forOb xs (g b x) m1 p1 fun y hy => h y (List.mem_cons_of_mem _ hy)
    exact ⟨m2, by rw [List.map_cons, for_cons, e1, seqR_ok, forF_next, e2]; rfl, p2⟩
def Sq (n m : Nat) (L : List (List Nat)) : Prop := L.length = m + 1 ∧ ∀ k, k ≤ m → (L.getD k []).length = n
theorem addW_sq {n m : Nat} {L : List (List Nat)} (h : Sq n m L) {k : Nat} (hk : k ≤ m) (r : Nat) : Sq n m (addW L k r) := by
  unfold addW
  refine ⟨by rw [List.length_set]; exact h.1, fun j hj => ?_⟩
  rw [List.getD_eq_getElem?_getD, List.getElem?_set]
  by_cases c : k = j
  · subst c
    rw [if_pos rfl, if_pos (by have := h.1; omega)]
    show (adZ (L.getD k []) (r, 1)).length = n
    rw [adZ_len]
    exact h.2 k hk
  · rw [if_neg c, ← List.getD_eq_getElem?_getD]
    exact h.2 j hj
theorem addW_get {n m : Nat} {L : List (List Nat)} (h : Sq n m L) {k j : Nat} (hk : k ≤ m) (hj : j ≤ m) {r q : Nat} (hq : q < n) : ((addW L k r).getD j []).getD q 0 = (L.getD j []).getD q 0 + if k = j ∧ r = q then 1 else 0 := by
  unfold addW
  by_cases c : k = j
  · subst c
    have : (L.set k (adZ (L.getD k []) (r, 1))).getD k [] = adZ (L.getD k []) (r, 1) := by
      rw [List.getD_eq_getElem?_getD, List.getElem?_set, if_pos rfl, if_pos (by have := h.1; omega)]
      rfl
    rw [this, adZ_get _ _ _ (by rw [h.2 k hk]; exact hq)]
    by_cases d : r = q
    · rw [if_pos d, if_pos ⟨rfl, d⟩]
    · rw [if_neg d, if_neg (fun z => d z.2)]
  · have : (L.set k (adZ (L.getD k []) (r, 1))).getD j [] = L.getD j [] := by
      rw [List.getD_eq_getElem?_getD, List.getElem?_set, if_neg c, ← List.getD_eq_getElem?_getD]
    rw [this, if_neg (fun z => c z.1), Nat.add_zero]
def addR (k : Nat) (L : List (List Nat)) (rs : List Nat) : List (List Nat) := rs.foldl (fun L r => addW L k r) L
theorem addR_sq {n m k : Nat} (hk : k ≤ m) : ∀ (rs : List Nat) (L : List (List Nat)), Sq n m L → Sq n m (addR k L rs)
  | [], _, h => h
  | r :: rs, L, h => addR_sq hk rs _ (addW_sq h hk r)
theorem addR_get {n m k j q : Nat} (hk : k ≤ m) (hj : j ≤ m) (hq : q < n) : ∀ (rs : List Nat) (L : List (List Nat)), Sq n m L → ((addR k L rs).getD j []).getD q 0 = (L.getD j []).getD q 0 + if k = j then rs.count q else 0
  | [], L, h => by
    show _ = _ + if k = j then 0 else 0
    split <;> rfl
  | r :: rs, L, h => by
    show ((addR k (addW L k r) rs).getD j []).getD q 0 = _
    rw [addR_get hk hj hq rs _ (addW_sq h hk r), addW_get h hk hj hq, List.count_cons]
    by_cases c : k = j
    · rw [if_pos c, if_pos c]
      by_cases d : r = q
      · rw [if_pos ⟨c, d⟩, if_pos (beq_iff_eq.mpr d)]; omega
      · rw [if_neg (fun z => d z.2), if_neg (fun z => d (beq_iff_eq.mp z))]; omega
    · rw [if_neg c, if_neg c, if_neg (fun z => c z.1)]
def addT (t : List Row) (L : List (List Nat)) (w : List Nat) : List (List Nat) := addR w.length L (ru t w)
theorem word_turn {ns : List Int} {t : List Row} (ht : Tab t) {m : Nat} (hm : m ≤ 5) {w : List Nat} (hw : w.length ≤ m) (hl : ∀ c ∈ w, c ∈ lets t) (L : List (List Nat)) (hL : Sq t.length m L) (x6 x7 x8 x9 x10 x11 : Option D) :
    ∃ y9, exL Λ 1000 b_law_2 (lS ns t m (some (.str w)) x6 x7 x8 x9 x10 x11) (bxO L) = .ok (.next (lS ns t m (some (.str w)) x6 x7 x8 y9 x10 x11)) (bxO (addT t L w)) := by
  have rb : d__law_rows_by [tabD t, .str w] = pure (.lst (intsD (ru t w))) := ok_law_rows_by ht hl (by omega)
  obtain ⟨m', e, sq, y9, rfl⟩ := forOb (Φ := Λ) (F := 1000) (i := 9) (body := b_law_1) (kf := fun r : Nat => D.int (r : Int)) (P := fun L m' => Sq t.length m L ∧ ∃ y9, m' = lS ns t m (some (.str w)) x6 x7 x8 y9 x10 x11) (st := bxO) (g := fun L r => addW L w.length r) (ru t w) L (lS ns t m (some (.str w)) x6 x7 x8 x9 x10 x11) ⟨hL, x9, rfl⟩ (by
    rintro r hr L' m' ⟨sq, y9, rfl⟩
    have rl : r < t.length := by
      unfold ru at hr
      obtain ⟨x, hx, rfl⟩ := List.mem_map.mp hr
      exact (rf_some (ht.has _ (hl _ (tri_mid hx)))).2
    refine ⟨_, in_turn hw (by omega) sq.1 (by rw [sq.2 _ hw]; exact rl) x6 x7 x8 x10 x11, addW_sq sq hw r, _, rfl⟩)
  refine ⟨y9, ?_⟩
  have e' : forX Λ 1000 (.name 9) b_law_1 (lS ns t m (some (.str w)) x6 x7 x8 x9 x10 x11) (intsD (ru t w)) (bxO L) = _ := e
  unfold lS at e' ⊢
  unfold b_law_2
  simp only [EV1, EV2, EV3, EV4, rb, e']
  rfl
theorem words_loop {ns : List Int} {t : List Row} (ht : Tab t) {m : Nat} (hm : m ≤ 5) (L : List (List Nat)) (hL : Sq t.length m L) (W : List (List Nat)) (hW : ∀ w ∈ W, w.length ≤ m ∧ ∀ c ∈ w, c ∈ lets t) (x5 x6 x7 x8 x9 x10 x11 : Option D) :
    ∃ y5 y9, forX Λ 1000 (.name 5) b_law_2 (lS ns t m x5 x6 x7 x8 x9 x10 x11) (strsD W) (bxO L) = .ok (.next (lS ns t m y5 x6 x7 x8 y9 x10 x11)) (bxO (W.foldl (addT t) L)) ∧ Sq t.length m (W.foldl (addT t) L) := by
  obtain ⟨m', e, sq, y5, y9, rfl⟩ := forOb (Φ := Λ) (F := 1000) (i := 5) (body := b_law_2) (kf := D.str) (P := fun L m' => Sq t.length m L ∧ ∃ y5 y9, m' = lS ns t m y5 x6 x7 x8 y9 x10 x11) (st := bxO) (g := addT t) W L (lS ns t m x5 x6 x7 x8 x9 x10 x11) ⟨hL, x5, x9, rfl⟩ (by
    rintro w hw L' m' ⟨sq, y5, y9, rfl⟩
    obtain ⟨h1, h2⟩ := hW w hw
    obtain ⟨z9, e⟩ := word_turn (ns := ns) ht hm h1 h2 L' sq x6 x7 x8 y9 x10 x11
    exact ⟨_, e, addR_sq h1 _ _ sq, _, _, rfl⟩)
  exact ⟨y5, y9, e, sq⟩
theorem addT_get {t : List Row} {m j q : Nat} (hj : j ≤ m) (hq : q < t.length) : ∀ (W : List (List Nat)) (L : List (List Nat)), Sq t.length m L → (∀ w ∈ W, w.length ≤ m) → ((W.foldl (addT t) L).getD j []).getD q 0 = (L.getD j []).getD q 0 + ((W.filter fun w => decide (w.length = j)).map fun w => (ru t w).count q).sum
  | [], L, _, _ => rfl
  | w :: W, L, h, hW => by
    have hw := hW w (by simp)
    show ((W.foldl (addT t) (addT t L w)).getD j []).getD q 0 = _
    rw [addT_get hj hq W (addT t L w) (addR_sq hw _ _ h) fun v hv => hW v (List.mem_cons_of_mem _ hv)]
    rw [show addT t L w = addR w.length L (ru t w) from rfl, addR_get hw hj hq _ _ h, List.filter_cons]
    by_cases c : w.length = j
    · rw [if_pos c, if_pos (decide_eq_true c), List.map_cons, List.sum_cons]; omega
    · rw [if_neg c, if_neg (by simpa using c)]; omega
theorem wl_filter (t : List Row) (j : Nat) : ∀ n, (wordsT t n).filter (fun w => decide (w.length = j)) = if j ≤ n then wlT t j else []
  | 0 => by
    show ([[]].filter fun w : List Nat => decide (w.length = j)) = _
    by_cases c : j = 0
    · subst c; rfl
    · rw [if_neg (by omega)]
      simp
      omega
  | n + 1 => by
    rw [wordsT, List.filter_append, wl_filter t j n]
    by_cases c : j = n + 1
    · subst c
      rw [if_neg (by omega), if_pos (Nat.le_refl _), List.nil_append]
      exact List.filter_eq_self.mpr fun w hw => decide_eq_true (mem_wlT.mp hw).1
    · have : (wlT t (n + 1)).filter (fun w => decide (w.length = j)) = [] := List.filter_eq_nil_iff.mpr fun w hw z => c (by rw [← (mem_wlT.mp hw).1]; exact (of_decide_eq_true z).symm)
      rw [this, List.append_nil]
      by_cases d : j ≤ n
      · rw [if_pos d, if_pos (by omega)]
      · rw [if_neg d, if_neg (by omega)]
theorem sum_wl {t : List Row} (ht : Tab t) (j q : Nat) : ((wlT t j).map fun w => (ru t w).count q).sum = sS t j 35 q := by
  have p : (wLs t j).Perm (wlT t j) := (List.perm_ext_iff_of_nodup (wLs_nodup ht j) (wlT_nodup t j)).mpr fun w => by rw [mem_wLs, mem_wlT]
  have := (p.map fun w => (ru t w).count q).sum_nat
  rw [← this]
  unfold sS
  congr 1
  exact List.map_congr_left fun w _ => by rw [ru_W]
def shL (t : List Row) (n : Nat) : List Nat := adA (List.replicate t.length 0) (ctxN t n)
theorem shL_len (t : List Row) (n : Nat) : (shL t n).length = t.length := by unfold shL; rw [adA_len, List.length_replicate]
theorem shL_get {t : List Row} (ht : Tab t) (n : Nat) {r : Nat} (hr : r < t.length) : (shL t n).getD r 0 = sS t n 35 r := by
  unfold shL
  rw [adA_get _ _ _ (by rw [List.length_replicate]; exact hr), ctxN_at ht]
  simp [hr]
theorem ext_getD {a b : List Nat} (h : a.length = b.length) (g : ∀ r, r < a.length → a.getD r 0 = b.getD r 0) : a = b := by
  apply List.ext_getElem h
  intro i h1 h2
  have := g i h1
  rw [List.getD_eq_getElem?_getD, List.getD_eq_getElem?_getD, List.getElem?_eq_getElem h1, List.getElem?_eq_getElem h2] at this
  exact this
theorem due_eq {t : List Row} (ht : Tab t) (m : Nat) {L0 : List (List Nat)} (h0 : Sq t.length m L0) (z0 : ∀ j, j ≤ m → ∀ q, q < t.length → (L0.getD j []).getD q 0 = 0) (h1 : Sq t.length m ((wordsT t m).foldl (addT t) L0)) : (wordsT t m).foldl (addT t) L0 = (List.range (m + 1)).map (shL t) := by
  apply List.ext_getElem (by rw [h1.1]; simp)
  intro j g1 g2
  have hj : j ≤ m := by simp at g2; omega
  rw [List.getElem_map, List.getElem_range]
  have e : ((wordsT t m).foldl (addT t) L0)[j] = ((wordsT t m).foldl (addT t) L0).getD j [] := by
    rw [List.getD_eq_getElem?_getD, List.getElem?_eq_getElem g1]; rfl
  rw [e]
  refine ext_getD (by rw [h1.2 j hj, shL_len]) fun r hr => ?_
  rw [h1.2 j hj] at hr
  rw [addT_get hj hr _ _ h0 fun w hw => (mem_wordsT.mp hw).1, z0 j hj r hr, Nat.zero_add, wl_filter, if_pos hj, sum_wl ht, shL_get ht _ hr]
theorem sum_ind {a : Nat} : ∀ N, a < N → ((List.range N).map fun r => if (a == r) = true then 1 else 0).sum = 1
  | N + 1, h => by
    rw [List.range_succ, List.map_append, List.sum_append]
    have z : ∀ M, M ≤ a → ((List.range M).map fun r => if (a == r) = true then 1 else 0).sum = 0 := fun M => by
      induction M with
      | zero => intro _; rfl
      | succ M ih =>
        intro hM
        rw [List.range_succ, List.map_append, List.sum_append, ih (by omega), List.map_cons, List.map_nil, List.sum_singleton, if_neg (by simp; omega)]
    by_cases c : a = N
    · subst c
      rw [z a (Nat.le_refl _)]
      simp
    · rw [sum_ind N (by omega), List.map_cons, List.map_nil, List.sum_singleton, if_neg (by simpa using c)]
theorem sum_counts (N : Nat) : ∀ l : List Nat, (∀ x ∈ l, x < N) → ((List.range N).map fun r => l.count r).sum = l.length
  | [], _ => by
    have : (fun r : Nat => ([] : List Nat).count r) = fun _ => 0 := rfl
    rw [this, sum_zero]; rfl
  | a :: l, h => by
    have e : (fun r => (a :: l).count r) = fun r => l.count r + if (a == r) = true then 1 else 0 := funext fun r => List.count_cons
    rw [e, sum_addF, sum_counts N l fun x hx => h x (List.mem_cons_of_mem _ hx), sum_ind N (h a (by simp)), List.length_cons]
theorem sum_swap {α β : Type} (f : α → β → Nat) (ys : List β) : ∀ xs : List α, (xs.map fun x => (ys.map fun y => f x y).sum).sum = (ys.map fun y => (xs.map fun x => f x y).sum).sum
  | [] => by
    have : (fun y : β => (([] : List α).map fun x => f x y).sum) = fun _ => 0 := rfl
    rw [this, sum_zero]; rfl
  | x :: xs => by
    rw [List.map_cons, List.sum_cons, sum_swap f ys xs, ← sum_addF]
    congr 1
theorem sh_sum {t : List Row} (ht : Tab t) (n : Nat) : (shL t n).sum = n * (lets t).length ^ n := by
  have e : shL t n = (List.range t.length).map fun r => sS t n 35 r := ext_getD (by rw [shL_len]; simp) fun r hr => by
    rw [shL_len] at hr
    rw [shL_get ht n hr]
    simp [hr]
  rw [e]
  unfold sS
  rw [sum_swap (fun r w => (ruW t 35 w).count r) (wLs t n)]
  have : (wLs t n).map (fun w => ((List.range t.length).map fun r => (ruW t 35 w).count r).sum) = (wLs t n).map fun _ => n := List.map_congr_left fun w hw => by
    obtain ⟨h1, h2⟩ := mem_wLs.mp hw
    have lt : ∀ (w : List Nat) (a : Nat), (∀ c ∈ w, c ∈ lets t) → ∀ x ∈ ruW t a w, x < t.length := fun w => by
      induction w with
      | nil => intro a _ x hx; cases hx
      | cons l w ih =>
        intro a h x hx
        rcases List.mem_cons.mp hx with rfl | hx
        · exact (rf_some (ht.has l (h l (by simp)))).2
        · exact ih l (fun c hc => h c (List.mem_cons_of_mem _ hc)) x hx
    rw [sum_counts _ _ (lt w 35 h2), ruW_len, h1]
  rw [this, sum_const, wLs_len, Nat.mul_comm]
theorem sum_pos {α : Type} (f : α → Nat) : ∀ l : List α, (l.map f).sum = 0 ↔ ∀ x ∈ l, f x = 0
  | [] => by simp
  | x :: l => by
    rw [List.map_cons, List.sum_cons]
    have := sum_pos f l
    constructor
    · intro h y hy
      rcases List.mem_cons.mp hy with rfl | hy
      · omega
      · exact this.mp (by omega) y hy
    · intro h
      have := this.mpr fun y hy => h y (List.mem_cons_of_mem _ hy)
      have := h x (by simp)
      omega
theorem nu_eq {t : List Row} (ht : Tab t) : ((List.range t.length).filter fun r => decide ((shL t 1).getD r 0 + (shL t 2).getD r 0 + (shL t 3).getD r 0 = 0)) = nu t := by
  unfold nu
  refine List.filter_congr fun r hr => ?_
  have rl := List.mem_range.mp hr
  rw [shL_get ht 1 rl, shL_get ht 2 rl, shL_get ht 3 rl]
  have key : ∀ n, sS t n 35 r = 0 ↔ ∀ w ∈ wLs t n, r ∉ ru t w := fun n => by
    unfold sS
    rw [sum_pos]
    constructor
    · intro h w hw
      rw [ru_W]
      exact List.count_eq_zero.mp (h w hw)
    · intro h w hw
      have := h w hw
      rw [ru_W] at this
      exact List.count_eq_zero.mpr this
  rw [Bool.eq_iff_iff, decide_eq_true_eq, Bool.not_eq_true', List.contains_eq_mem, decide_eq_false_iff_not, mem_seen]
  constructor
  · rintro h ⟨w, hw, hr⟩
    obtain ⟨h1, h2⟩ := mem_wordsT.mp hw
    have : w.length = 0 ∨ w.length = 1 ∨ w.length = 2 ∨ w.length = 3 := by omega
    rcases this with c | c | c | c
    · rw [List.eq_nil_of_length_eq_zero c] at hr
      cases hr
    · exact (key 1).mp (by omega) w (mem_wLs.mpr ⟨c, h2⟩) hr
    · exact (key 2).mp (by omega) w (mem_wLs.mpr ⟨c, h2⟩) hr
    · exact (key 3).mp (by omega) w (mem_wLs.mpr ⟨c, h2⟩) hr
  · intro h
    have z : ∀ n, n ≤ 3 → sS t n 35 r = 0 := fun n hn => (key n).mpr fun w hw hr => h ⟨w, mem_wordsT.mpr ⟨by have := (mem_wLs.mp hw).1; omega, (mem_wLs.mp hw).2⟩, hr⟩
    rw [z 1 (by decide), z 2 (by decide), z 3 (by decide)]
def lstD (l : List Nat) : D := .lst (intsD l)
theorem map_der (n : Nat) {α : Type} {u v : α → D} {o : Objs} : ∀ xs : List α, (∀ x ∈ xs, derD n (u x) o = .ok (v x) o) → mapMs (derD n) (xs.map u) o = .ok (xs.map v) o
  | [], _ => rfl
  | x :: xs, h => by
    show (derD n (u x) >>= fun y => mapMs (derD n) (xs.map u) >>= fun ys => pure (y :: ys)) o = _
    rw [bnd_ap, h x (by simp), seqR_ok, bnd_ap, map_der n xs fun y hy => h y (List.mem_cons_of_mem _ hy), seqR_ok]
    rfl
theorem map_ints (n : Nat) (l : List Nat) (o : Objs) : mapMs (derD n) (intsD l) o = .ok (intsD l) o := map_der n l fun a _ => by cases n <;> rfl
theorem der_ints (n : Nat) (l : List Nat) (o : Objs) : derD (n + 1) (lstD l) o = .ok (lstD l) o := by
  show (mapMs (derD n) (intsD l) >>= fun ys => pure (D.lst ys)) o = _
  rw [bnd_ap, map_ints, seqR_ok]
  rfl
theorem der_lists (Ls : List (List Nat)) (o : Objs) : derD 3 (.lst (Ls.map lstD)) o = .ok (.lst (Ls.map lstD)) o := by
  show (mapMs (derD 2) (Ls.map lstD) >>= fun ys => pure (D.lst ys)) o = _
  rw [bnd_ap, map_der 2 Ls fun a _ => der_ints 1 a o, seqR_ok]
  rfl
theorem der_obs (L : List (List Nat)) {n : Nat} (h : L.length = n) : derD 3 (.lst (obD n)) (bxO L) = .ok (.lst (L.map lstD)) (bxO L) := by
  show (mapMs (derD 2) ((List.range n).map D.obj) >>= fun ys => pure (D.lst ys)) (bxO L) = _
  rw [bnd_ap, map_der 2 (v := fun k => lstD (L.getD k [])) (List.range n) fun k hk => by
    show (match (bxO L)[k]? with | some (.box (.lst xs)) => derD 1 (.lst xs) (bxO L) | _ => .stuck) = _
    rw [bx_get (by rw [h]; exact List.mem_range.mp hk)]
    exact der_ints 0 _ _, seqR_ok]
  have e : (List.range n).map (fun k => lstD (L.getD k [])) = L.map lstD := by
    apply List.ext_getElem (by simp [h])
    intro i h1 h2
    simp at h2
    rw [List.getElem_map, List.getElem_map, List.getElem_range, List.getD_eq_getElem?_getD, List.getElem?_eq_getElem h2]
    rfl
  rw [e]
  rfl
theorem eq_lists (Ls : List (List Nat)) (n : Nat) : eqL (n + 1) (Ls.map lstD) (Ls.map lstD) = some true := by
  induction Ls with
  | nil => rfl
  | cons a l ih =>
    show (match eqD (n + 1) (lstD a) (lstD a), eqL (n + 1) (l.map lstD) (l.map lstD) with | some a, some b => some (a && b) | _, _ => none) = _
    rw [ih, show eqD (n + 1) (lstD a) (lstD a) = some true from eq_ints a n]
    rfl
theorem dcm_ok (L : List (List Nat)) {n : Nat} (h : L.length = n) : dcmM false (.lst (L.map lstD)) (.lst (obD n)) (bxO L) = .ok (.bl false) (bxO L) := by
  show (derD 3 (.lst (L.map lstD)) >>= fun x => derD 3 (.lst (obD n)) >>= fun y => eqM x y >>= fun e => pure (D.bl (e == false))) (bxO L) = _
  rw [bnd_ap, der_lists, seqR_ok, bnd_ap, der_obs L h, seqR_ok, bnd_ap]
  have : eqM (.lst (L.map lstD)) (.lst (L.map lstD)) = pure true := by
    unfold eqM
    have : eqD dp (.lst (L.map lstD)) (.lst (L.map lstD)) = some true := eq_lists L 38
    rw [this]
  rw [this]
  rfl
theorem v_dcmp {Φ : Fns} {m : Slots} (b : Bool) (a c : E) : evE Φ (.dcmp b a c) m = L2 (dcmM b) (evE Φ a m) (evE Φ c m) := rfl
theorem box_map {t : List Row} (n10 : t.length ≤ 10) (x0 x2 x3 x4 x5 x7 x8 x9 x10 x11 : Option D) : ∀ (ks : List Nat) (L : List (List Nat)), MapO (fun x o => (bindD (.name 6) x (wipeD [x0, some (tabD t), x2, x3, x4, x5, none, x7, x8, x9, x10, x11] [6]) >>= fun m' => evC Λ none m' >>= fun b => if b then evE Λ (.box (.bin .mul (.lst [.cst (.int 0)]) (.blt .len [.slot 1]))) m' >>= fun y => pure (some y) else pure none) o) (ks.map fun (k : Nat) => D.int (k : Int)) (bxO L) ((List.range' L.length ks.length).map D.obj) (bxO (L ++ List.replicate ks.length (List.replicate t.length 0)))
  | [], L => by
    rw [List.length_nil, List.replicate_zero, List.append_nil]
    exact .nil _
  | k :: ks, L => by
    have ih := box_map n10 x0 x2 x3 x4 x5 x7 x8 x9 x10 x11 ks (L ++ [List.replicate t.length 0])
    have bl : blt1M .len (tabD t) = pure (.int (t.length : Nat)) := by
      show pure (D.int (((t.map rowD).length : Nat) : Int)) = _
      rw [List.length_map]
    have mu : opM .mul (.lst [.int 0]) (.int (t.length : Nat)) = pure (.lst (intsD (List.replicate t.length 0))) := by
      show (if (0 : Int) ≤ ((t.length : Nat) : Int) ∧ ((t.length : Nat) : Int) ≤ 1000 ∧ [D.int 0].length ≤ 1000 then pure (D.lst (rep ((t.length : Nat) : Int).toNat [D.int 0])) else M.fail) = _
      rw [if_pos ⟨by omega, by omega, by decide⟩]
      have : ∀ k : Nat, rep k [D.int 0] = intsD (List.replicate k 0) := fun k => by
        induction k with
        | zero => rfl
        | succ k ih =>
          show [D.int 0] ++ rep k [D.int 0] = _
          rw [ih]
          rfl
      rw [Int.toNat_natCast, this]
    rw [List.length_append, List.length_singleton, List.append_assoc] at ih
    rw [List.length_cons, List.range'_succ, List.replicate_succ, List.map_cons, List.map_cons]
    refine .cons (o1 := bxO (L ++ [List.replicate t.length 0])) ?_ ih
    rw [bind_name, pure_bnd]
    show (evE Λ (.box (.bin .mul (.lst [.cst (.int 0)]) (.blt .len [.slot 1]))) [x0, some (tabD t), x2, x3, x4, x5, some (.int (k : Nat)), x7, x8, x9, x10, x11] >>= fun y => pure (some y)) (bxO L) = _
    rw [bnd_ap]
    simp only [EV1, EV2, EV3, EV4, bl, mu, boxM_lst]
    have : (bxO L).length = L.length := by unfold bxO; rw [List.length_map]
    rw [this]
    unfold bxO
    rw [List.map_append]
    rfl
theorem er_ok {m : Nat} (hm : m ≤ 4) : rngM [.int ((m : Int) + 1)] = pure ((List.range (m + 1)).map fun (k : Nat) => D.int (k : Int)) := by
  have : m = 0 ∨ m = 1 ∨ m = 2 ∨ m = 3 ∨ m = 4 := by omega
  rcases this with rfl | rfl | rfl | rfl | rfl <;> rfl
theorem ev_rng {m : Nat} (hm : m ≤ 4) (x0 x1 x2 : Option D) (r : Slots) : evI Λ (.irng [.bin .add (.slot 3) (.cst (.int 1))]) (x0 :: x1 :: x2 :: some (.int (m : Nat)) :: r) = pure ((List.range (m + 1)).map fun (k : Nat) => D.int (k : Int)) := by
  have ea : evA Λ [.bin .add (.slot 3) (.cst (.int 1))] (x0 :: x1 :: x2 :: some (.int (m : Nat)) :: r) = pure [.int ((m : Int) + 1)] := by
    simp only [v_bin, v_acons, v_anil, v_slot, v_cst, List.getElem?_cons_zero, List.getElem?_cons_succ, getS_some, L2_pure, consM_pure, o_addI]
  rw [v_irng, ea, L1_pure]
  exact er_ok hm
theorem law_true (ns : List Int) (hl : ns.length ≤ 63) : ∃ o', d_law [.scr (ns.map D.int)] [] = .ok (.bl true) o' := by
  show ∃ o', d_law [sc ns] [] = .ok (.bl true) o'
  obtain ⟨t, et, okt⟩ := ok_tableY ns 10 7 (by decide) (by decide) (by decide)
  have et' : d__law_table [sc ns, .int 10, .int 7] = pure (tabD t) := et
  have f := fit_of okt (by decide)
  have ht := f.tb
  have l3 := f.l3
  have n10 := ht.n10
  have lt := ok_law_letters t (by have := ht.n10; omega)
  have bl : blt1M .len (.lst (letD (lets t))) = pure (.int ((lets t).length : Nat)) := by rw [b_lenL]; unfold letD; rw [List.length_map]
  have q2 := o_eq (eq_int ((lets t).length : Nat) 2)
  obtain ⟨m, hm, m4⟩ : ∃ m : Nat, (if (((lets t).length : Nat) : Int) = 2 then (4 : Int) else 3) = (m : Int) ∧ m ≤ 4 := by
    by_cases c : (((lets t).length : Nat) : Int) = 2
    · exact ⟨4, by rw [if_pos c]; rfl, Nat.le_refl _⟩
    · exact ⟨3, by rw [if_neg c]; rfl, by decide⟩
  have wd : d__law_words [tabD t, .int (m : Nat)] = pure (.lst (strsD (wordsT t m))) := ok_law_words ht (by omega)
  have iw : iteM (opM .eq (.int ((lets t).length : Nat)) (.int 2)) (pure (D.int 4)) (pure (D.int 3)) = pure (.int (m : Nat)) := by
    rw [q2]
    rw [← hm]
    by_cases c : (((lets t).length : Nat) : Int) = 2
    · rw [if_pos c, beq_iff_eq.mpr c]; rfl
    · rw [if_neg c, beq_eq_false_iff_ne.mpr c]; rfl
  have s3 : evE Λ (.ite (.bin .eq (.slot 2) (.cst (.int 2))) (.cst (.int 4)) (.cst (.int 3))) [some (sc ns), some (tabD t), some (.int ((lets t).length : Nat)), none, none, none, none, none, none, none, none, none] = pure (.int (m : Nat)) := by
    have c1 : evE Λ (.bin .eq (.slot 2) (.cst (.int 2))) [some (sc ns), some (tabD t), some (.int ((lets t).length : Nat)), none, none, none, none, none, none, none, none, none] = opM .eq (.int ((lets t).length : Nat)) (.int 2) := by
      simp only [v_bin, v_slot, v_cst, List.getElem?_cons_zero, List.getElem?_cons_succ, getS_some, L2_pure]
    rw [v_ite, c1, v_cst, v_cst]
    exact iw
  -- the boxes
  have bm := box_map n10 (some (sc ns)) (some (.int ((lets t).length : Nat))) (some (.int (m : Nat))) none none none none none none none (List.range (m + 1)) []
  have e4 := ev_compS (Φ := Λ) (t := .name 6) (it := .irng [.bin .add (.slot 3) (.cst (.int 1))]) (c := none) (elt := .box (.bin .mul (.lst [.cst (.int 0)]) (.blt .len [.slot 1]))) (own := [6]) (m := [some (sc ns), some (tabD t), some (.int ((lets t).length : Nat)), some (.int (m : Nat)), none, none, none, none, none, none, none, none]) (o := []) (o1 := []) (by rw [ev_rng m4]; rfl) (by rw [List.length_map, List.length_range]; simp only [sz]; omega) bm
  rw [List.length_range, List.nil_append, List.length_nil, ← List.range_eq_range'] at e4
  have e4' : evE Λ (.comp (.name 6) (.irng [.bin .add (.slot 3) (.cst (.int 1))]) none (.box (.bin .mul (.lst [.cst (.int 0)]) (.blt .len [.slot 1]))) [6]) [some (sc ns), some (tabD t), some (.int ((lets t).length : Nat)), some (.int (m : Nat)), none, none, none, none, none, none, none, none] [] = .ok (.lst (obD (m + 1))) (bxO (List.replicate (m + 1) (List.replicate t.length 0))) := e4
  -- the loop
  have g0 : ∀ j, j ≤ m → (List.replicate (m + 1) (List.replicate t.length 0)).getD j [] = List.replicate t.length 0 := fun j hj => by
    rw [List.getD_eq_getElem?_getD, List.getElem?_replicate, if_pos (by omega)]
    rfl
  have sq0 : Sq t.length m (List.replicate (m + 1) (List.replicate t.length 0)) := ⟨List.length_replicate, fun j hj => by rw [g0 j hj, List.length_replicate]⟩
  obtain ⟨y5, y9, e5, sq⟩ := words_loop (ns := ns) ht (by omega) _ sq0 (wordsT t m) (fun w hw => mem_wordsT.mp hw) none none none none none none none
  have de := due_eq ht m sq0 (fun j hj q hq => by rw [g0 j hj]; simp [hq]) sq
  rw [de] at e5
  have len : ((List.range (m + 1)).map (shL t)).length = m + 1 := by simp
  generalize hL : (List.range (m + 1)).map (shL t) = L at e5 len
  have sh : ∀ {n : Nat}, n ≤ 24 → ∀ o, d_row_shares [tabD t, .int (n : Nat)] o = .ok (lstD (shL t n)) o := fun {n} hn o => shares_ok ht hn o
  have e6 := ev_mapO (Φ := Λ) (i := 6) (it := .irng [.bin .add (.slot 3) (.cst (.int 1))]) (elt := .call 4 [.slot 1, .slot 6]) (own := [6]) (m := lS ns t m y5 none none none y9 none none) (o := bxO L) (xs := List.range (m + 1)) (u := fun (k : Nat) => D.int (k : Int)) (v := fun k => lstD (shL t k)) (by unfold lS; rw [ev_rng m4]; rfl) (by rw [List.length_range]; simp only [sz]; omega) (fun k hk => by
    have s := sh (n := k) (by have := List.mem_range.mp hk; omega) (bxO L)
    unfold lS
    simp only [wipeD, EV1, EV2, EV3, EV4, s])
  have eL : (List.range (m + 1)).map (fun k => lstD (shL t k)) = L.map lstD := by rw [← hL, List.map_map]; rfl
  rw [eL] at e6
  have dc := dcm_ok L len
  -- the far one
  obtain ⟨p0, p1⟩ := pick_lt ns 90 22 (by decide)
  have ep := ok_pick ns 90 22 (by decide) (by decide)
  obtain ⟨n, hn⟩ : ∃ m : Nat, 3 + pick ns 90 22 = (m : Int) := ⟨_, (Int.toNat_of_nonneg (by omega)).symm⟩
  have n24 : n ≤ 24 := by omega
  have sn := sh n24 (bxO L)
  have su : blt1M .sum (lstD (shL t n)) = pure (.int ((n * (lets t).length ^ n : Nat) : Int)) := by
    have := sum_ints (shL t n)
    rw [sh_sum ht] at this
    exact this
  have wy : d__law_power [.int ((lets t).length : Nat), .int (n : Nat)] = pure (.int (((lets t).length ^ n : Nat) : Int)) := ways_ok (by omega) (by omega)
  have mu : opM .mul (.int (n : Nat)) (.int (((lets t).length ^ n : Nat) : Int)) = pure (.int ((n * (lets t).length ^ n : Nat) : Int)) := by
    rw [o_mulI _ _ (by
      have : inR ((n : Nat) : Int) = true := by simp [inR]; omega
      rw [this, Bool.true_or])]
    congr 2
  have qn : ∀ a : Int, opM .ne (.int a) (.int a) = pure (.bl false) := fun a => by
    have := o_ne (eq_int a a)
    rw [this]
    simp
  -- the last
  have e8 := ev_mapO (Φ := Λ) (i := 10) (it := .irng [.cst (.int 1), .cst (.int 4)]) (elt := .call 4 [.slot 1, .slot 10]) (own := [10]) (m := lS ns t m y5 (some (.int (n : Nat))) (some (lstD (shL t n))) none y9 none none) (o := bxO L) (xs := [1, 2, 3]) (u := fun (k : Nat) => D.int (k : Int)) (v := fun k => lstD (shL t k)) (by rfl) (by simp [sz]) (fun k hk => by
    have s := sh (n := k) (by have : k = 1 ∨ k = 2 ∨ k = 3 := by simpa using hk
                              omega) (bxO L)
    unfold lS
    simp only [wipeD, EV1, EV2, EV3, EV4, s])
  have nev := ok_never_used ht
  have e9 : evE Λ (.comp (.name 9) (.irng [.blt .len [.slot 1]]) (some (.bin .eq (.blt .sum [.comp (.name 11) (.ival (.slot 8)) none (.idx (.slot 11) (.slot 9)) [11]]) (.cst (.int 0)))) (.slot 9) [9]) (lS ns t m y5 (some (.int (n : Nat))) (some (lstD (shL t n))) (some (.lst ([1, 2, 3].map fun k => lstD (shL t k)))) y9 none none) = pure (.lst (intsD (nu t))) := by
    have b0 : blt1M .len (tabD t) = pure (.int (t.length : Nat)) := by
      show pure (D.int (((t.map rowD).length : Nat) : Int)) = _
      rw [List.length_map]
    have er : rngM [.int (t.length : Nat)] = pure ((List.range t.length).map fun (k : Nat) => D.int (k : Int)) := rngM1 _ (by omega)
    have := ev_filter (Φ := Λ) (i := 9) (it := .irng [.blt .len [.slot 1]]) (cnd := .bin .eq (.blt .sum [.comp (.name 11) (.ival (.slot 8)) none (.idx (.slot 11) (.slot 9)) [11]]) (.cst (.int 0))) (elt := .slot 9) (own := [9]) (m := lS ns t m y5 (some (.int (n : Nat))) (some (lstD (shL t n))) (some (.lst ([1, 2, 3].map fun k => lstD (shL t k)))) y9 none none) (xs := List.range t.length) (u := fun (k : Nat) => D.int (k : Int)) (v := fun (k : Nat) => D.int (k : Int)) (p := fun r => decide ((shL t 1).getD r 0 + (shL t 2).getD r 0 + (shL t 3).getD r 0 = 0)) (by
        have ea : evA Λ [.blt .len [.slot 1]] (lS ns t m y5 (some (.int (n : Nat))) (some (lstD (shL t n))) (some (.lst ([1, 2, 3].map fun k => lstD (shL t k)))) y9 none none) = pure [.int (t.length : Nat)] := by
          unfold lS
          simp only [v_blt, v_acons, v_anil, v_slot, v_cst, List.getElem?_cons_zero, List.getElem?_cons_succ, getS_some, L1_pure, L2_pure, consM_pure, b_blt1, b0]
        rw [v_irng, ea, L1_pure, er]) (by rw [List.length_range]; simp only [sz]; omega) (fun r hr => by
        have rl := List.mem_range.mp hr
        have inn := ev_map (Φ := Λ) (i := 11) (it := .ival (.slot 8)) (elt := .idx (.slot 11) (.slot 9)) (own := [11]) (m := lS ns t m y5 (some (.int (n : Nat))) (some (lstD (shL t n))) (some (.lst ([1, 2, 3].map fun k => lstD (shL t k)))) (some (.int (r : Nat))) none none) (xs := [1, 2, 3]) (u := fun k => lstD (shL t k)) (v := fun k => D.int ((shL t k).getD r 0 : Nat)) (by rfl) (by simp [sz]) (fun k _ => by
          have ix := ints_ix (shL t k) (r := r) (by rw [shL_len]; exact rl)
          have ix' : idxM (lstD (shL t k)) (.int (r : Nat)) = _ := ix
          unfold lS
          simp only [wipeD, List.set_cons_succ, List.set_cons_zero, v_idx, v_slot, List.getElem?_cons_zero, List.getElem?_cons_succ, getS_some, L2_pure, ix'])
        have sm : blt1M .sum (.lst ([1, 2, 3].map fun k => D.int ((shL t k).getD r 0 : Nat))) = pure (.int (((shL t 1).getD r 0 + (shL t 2).getD r 0 + (shL t 3).getD r 0 : Nat) : Int)) := by
          have := sum_ints [(shL t 1).getD r 0, (shL t 2).getD r 0, (shL t 3).getD r 0]
          rw [List.sum_cons, List.sum_cons, List.sum_cons, List.sum_nil, Nat.add_zero, ← Nat.add_assoc] at this
          exact this
        have inn' : evE Λ (.comp (.name 11) (.ival (.slot 8)) none (.idx (.slot 11) (.slot 9)) [11]) ((wipeD (lS ns t m y5 (some (.int (n : Nat))) (some (lstD (shL t n))) (some (.lst ([1, 2, 3].map fun k => lstD (shL t k)))) y9 none none) [9]).set 9 (some (.int (r : Nat)))) = _ := inn
        have qe := o_eq (eq_int (((shL t 1).getD r 0 + (shL t 2).getD r 0 + (shL t 3).getD r 0 : Nat) : Int) 0)
        have qd : ((((shL t 1).getD r 0 + (shL t 2).getD r 0 + (shL t 3).getD r 0 : Nat) : Int) == 0) = decide ((shL t 1).getD r 0 + (shL t 2).getD r 0 + (shL t 3).getD r 0 = 0) := by
          rw [Bool.eq_iff_iff, beq_iff_eq, decide_eq_true_eq]
          omega
        rw [qd] at qe
        rw [v_bin, v_cst, v_blt, v_acons, inn', v_anil, L2_pure, consM_pure, L1_pure, b_blt1, sm, L2_pure, qe]) (fun r _ _ => by
        unfold lS
        simp only [wipeD, List.set_cons_succ, List.set_cons_zero, v_slot, List.getElem?_cons_zero, List.getElem?_cons_succ, getS_some])
    rw [this, nu_eq ht]
    rfl
  have qe : opM .eq (.lst (intsD (nu t))) (.lst (intsD (nu t))) = pure (.bl true) := o_eq (eq_ints _ 39)
  generalize bxO (List.replicate (m + 1) (List.replicate t.length 0)) = o1 at e4' e5
  unfold lS at e5 e6 e8 e9
  refine ⟨bxO L, ?_⟩
  unfold d_law c_law
  rw [den1, L1_ap]
  simp only [Nat.reduceSub, List.replicate, x_cons, x_set, x_for, x_ret, EV1, EV2, EV4, v_dcmp, et', lt, bl, s3, e4', v_bin, e6, e8, e9, v_call, v_blt, v_acons, v_anil, v_slot, v_cst, v_ival, wd, e5, dc, ep, hn, sn, su, wy, mu, qn, nev, qe]
end WB.K60
namespace WB.K60
open PySem PySem.Spec PyProof.Rows L2 WB WB.C

def top (i : Nat) : Stmt := PySem.Challenge.pw_writtenback_k60_whole_shares.main.body.getD i (.Pass ⟨0, 0, 0, 0⟩)
def clsN : Nat → PySem.Str
  | 1 => "NoTable"
  | 4 => "NoNumber"
  | _ => "NoTable"
def cA (K : PySem.W.Frag) : Nat → Addr := fun k => He.ga K (clsN k)
def tT (K : PySem.W.Frag) : List (Addr × PySem.Str) := []
def G (P : Program) (w : World) (K : PySem.W.Frag) : Glob := ⟨P, w, K, fun _ => 0, cA K, fun c => He.ga K (insN c), FNL, FNL_nd, FNL_ne, tT K⟩
structure Fx (P : Program) (w : World) (K : PySem.W.Frag) (mg : PySem.Str → Option Value) : Prop where
  n_len : mg "len" = none
  n_range : mg "range" = none
  n_sum : mg "sum" = none
  n_int : mg "int" = none
  n_enumerate : mg "enumerate" = none
  n_tuple : mg "tuple" = none
  n_sorted : mg "sorted" = none
  n_set : mg "set" = none
  n_isinstance : mg "isinstance" = none
  n_all : mg "all" = none
  n_str : mg "str" = none
  n_bool : mg "bool" = none
  c_MOST_LETTERS : ∃ t, mg "MOST_LETTERS" = some (.int 24 t)
  c_EDGE : ∃ t, mg "EDGE" = some (.str (txt [35]) t)
  c_MOST_ROWS : ∃ t, mg "MOST_ROWS" = some (.int 10 t)
  c_GREAT : ∃ t, mg "GREAT" = some (.str (txt [65, 66, 67, 68, 69, 70, 71, 72]) t)
  c_LONGEST : ∃ t, mg "LONGEST" = some (.int 3 t)
  c_SMALL : ∃ t, mg "SMALL" = some (.str (txt [97, 98, 99, 100, 101, 102, 103, 104, 105, 106, 107, 108, 109, 110, 111, 112, 113, 114, 115, 116, 117, 118, 119, 120, 121, 122]) t)
  c_MARK : ∃ t, mg "MARK" = some (.str (txt [39]) t)
  x_NoTable : Ec (G P w K) K mg 1 "NoTable"
  x_NoNumber : Ec (G P w K) K mg 4 "NoNumber"
  f__law_cell : FnP K mg "_law_cell" (top 27)
  f__law_pick : FnP K mg "_law_pick" (top 28)
  f__law_table : FnP K mg "_law_table" (top 29)
  f__law_letters : FnP K mg "_law_letters" (top 30)
  f__law_longer : FnP K mg "_law_longer" (top 34)
  f__law_words : FnP K mg "_law_words" (top 33)
  f__law_rows_by : FnP K mg "_law_rows_by" (top 31)
  f_is_neighbour : FnP K mg "is_neighbour" (top 13)
  f_is_text : FnP K mg "is_text" (top 12)
  f_is_row : FnP K mg "is_row" (top 14)
  f_is_table : FnP K mg "is_table" (top 15)
  f_look_table : FnP K mg "look_table" (top 16)
  f_look_whole : FnP K mg "look_whole" (top 23)
  f_letters_of : FnP K mg "letters_of" (top 17)
  f_goes : FnP K mg "goes" (top 18)
  f_row_for : FnP K mg "row_for" (top 19)
  f_ways_of : FnP K mg "ways_of" (top 24)
  f_row_shares : FnP K mg "row_shares" (top 25)
  f__law_power : FnP K mg "_law_power" (top 35)
  f_never_used : FnP K mg "never_used" (top 21)
  f_law : FnP K mg "law" (top 36)
section
variable {P : Program} {w : World} {K : PySem.W.Frag} {mg : PySem.Str → Option Value} {base : Heap}
theorem s__law_cell : FnScope ["script", "k"] ["script", "k"] (defScope (top 27)) := ⟨rfl, rfl, rfl, by decide +kernel, rfl, by decide +kernel, by decide +kernel⟩
theorem k__law_cell (T : Fx P w K mg) : Fk (G P w K) P w K mg base 1 "_law_cell" 2 d__law_cell := by
  exact k_def (Φ := tab []) (k := 0) T.f__law_cell s__law_cell [] 1000 c__law_cell (fun Fd => Fd.bindsN fun _ _ _ _ _ _ us hl => match us, hl with | [_, _], _ => rfl) (fun f cdv A outer s H E hr xo =>
  (l_cons (s_if (p_cmp xo .lt rfl (e_slot 1) (e_blt (ok_len xo.K) T.n_len (a_cons (e_slot 0) a_nil)))
  (l_cons (s_ret (e_idx xo (e_slot 0) (e_slot 1)))
  l_nil)
  l_nil)
  (l_cons (s_if (p_cmp xo .eq rfl (e_slot 0) (e_lst a_nil))
  (l_cons (s_ret e_int)
  l_nil)
  l_nil)
  (l_cons (s_ret (e_bin xo .add rfl (e_bin xo .mul rfl (e_idx xo (e_slot 0) (e_bin xo .mod rfl (e_slot 1) (e_blt (ok_len xo.K) T.n_len (a_cons (e_slot 0) a_nil)))) e_int) (e_slot 1)))
  l_nil)))) ⟨rfl, rfl, rfl⟩
theorem s__law_pick : FnScope ["script", "k", "many", "drawn"] ["script", "k", "many"] (defScope (top 28)) := ⟨rfl, rfl, rfl, by decide +kernel, rfl, by decide +kernel, by decide +kernel⟩
theorem k__law_pick (T : Fx P w K mg) : Fk (G P w K) P w K mg base 2 "_law_pick" 3 d__law_pick := by
  have F0 := k__law_cell (P := P) (w := w) (base := base) T
  exact k_def (Φ := tab [d__law_cell]) (k := 1) T.f__law_pick s__law_pick [] 1000 c__law_pick (fun Fd => Fd.bindsN fun _ _ _ _ _ _ us hl => match us, hl with | [_, _, _], _ => rfl) (fun f cdv A outer s H E hr xo =>
  (l_cons (s_set xo 3 (e_bin xo .mod rfl (e_bin xo .mul rfl (e_bin xo .add rfl (e_call xo 0 (F0.at hr) (a_cons (e_slot 0) (a_cons (e_slot 1) a_nil))) (e_bin xo .mul rfl e_int (e_bin xo .add rfl (e_slot 1) e_int))) e_int) e_int))
  (l_cons (s_ret (e_bin xo .mod rfl (e_bin xo .mod rfl (e_bin xo .add rfl (e_bin xo .mul rfl (e_slot 3) (e_slot 3)) (e_bin xo .fdiv rfl (e_slot 3) e_int)) e_int) (e_slot 2)))
  l_nil))) ⟨rfl, rfl, rfl⟩
theorem s__law_table : FnScope ["script", "at", "most", "some", "small", "texts", "text", "rows", "k", "letter", "here", "ahead", "behind", "row", "place", "sign"] ["script", "at", "most"] (defScope (top 29)) := ⟨rfl, rfl, rfl, by decide +kernel, rfl, by decide +kernel, by decide +kernel⟩
theorem k__law_table (T : Fx P w K mg) : Fk (G P w K) P w K mg base 3 "_law_table" 3 d__law_table := by
  have F0 := k__law_pick (P := P) (w := w) (base := base) T
  exact k_def (Φ := tab [d__law_pick]) (k := 2) T.f__law_table s__law_table [5, 7] 1000 c__law_table (fun Fd => Fd.bindsN fun _ _ _ _ _ _ us hl => match us, hl with | [_, _, _], _ => rfl) (fun f cdv A outer s H E hr xo =>
  (l_cons (s_set xo 3 (e_sl xo (e_idx xo (e_lst (a_cons (e_str [66, 67, 65]) (a_cons (e_str [68, 69, 70]) (a_cons (e_str [71, 72, 66]) a_nil)))) (e_call xo 0 (F0.at hr) (a_cons (e_slot 0) (a_cons (e_bin xo .add rfl (e_slot 1) e_int) (a_cons e_int a_nil))))) o_none (o_some (e_bin xo .add rfl e_int (e_bltT ok_int T.n_int (a_cons (e_cmp xo .eq rfl (e_call xo 0 (F0.at hr) (a_cons (e_slot 0) (a_cons (e_slot 1) (a_cons e_int a_nil)))) e_int) a_nil))))))
  (l_cons (s_set xo 4 (e_sl xo (e_str [97, 98, 99, 100, 101, 102, 103, 104, 105, 106, 107, 108, 109, 110, 111, 112, 113, 114, 115, 116, 117, 118, 119, 120, 121, 122]) (o_some (e_call xo 0 (F0.at hr) (a_cons (e_slot 0) (a_cons (e_bin xo .add rfl (e_slot 1) e_int) (a_cons e_int a_nil))))) o_none))
  (l_cons (s_setO xo 5 (e_lst a_nil))
  (l_cons (s_for xo hp_of (i_val xo (e_lst (a_cons (e_str [97]) (a_cons (e_str [98]) (a_cons (e_str [99]) (a_cons (e_str [97, 98]) (a_cons (e_str [98, 97]) (a_cons (e_str [97, 39]) (a_cons (e_str [97, 98, 99]) (a_cons (e_str [98, 98]) (a_cons (e_str [100]) (a_cons (e_str [99, 97]) a_nil)))))))))))) (g_name xo 6)
  (l_cons (s_app xo 5 (e_mth true rfl PySem.F.plainAttrs_str PySem.F.slot_str_join PySem.F.type_str_join ok_join (e_str []) (a_cons (e_comp xo [("sign", 15)] rfl (i_val xo (e_slot 6)) (fun _ _ _ _ _ => (g_name (xo.blk _ _ _ _ _) 15)) (fun _ _ _ _ _ => c_nil) (fun _ _ _ _ _ => (e_ite (p_cmp (xo.blk _ _ _ _ _) .ne rfl (e_slot 15) (e_str [39])) (e_nofr (e_idx (xo.blk _ _ _ _ _) (e_slot 4) (e_mth true rfl PySem.F.plainAttrs_str PySem.F.slot_str_index PySem.F.type_str_index ok_index (e_str [97, 98, 99, 100]) (a_cons (e_slot 15) a_nil)))) (e_nofr (e_slot 15))))) a_nil)))
  l_nil))
  (l_cons (s_setO xo 7 (e_lst a_nil))
  (l_cons (s_for xo hp_of (i_enumT xo T.n_enumerate (a_cons (e_slot 3) a_nil)) (g_tup xo (nm_cons 8 (nm_cons 9 .nil)))
  (l_cons (s_app xo 7 (e_tup (a_cons e_non (a_cons (e_slot 9) (a_cons e_non (a_cons (e_idx xo (e_own 5) (e_call xo 0 (F0.at hr) (a_cons (e_slot 0) (a_cons (e_bin xo .add rfl (e_bin xo .add rfl (e_slot 1) e_int) (e_slot 8)) (a_cons e_int a_nil))))) a_nil))))))
  l_nil))
  (l_cons (s_for xo hp_of (i_rng1 T.n_range (a_cons (e_call xo 0 (F0.at hr) (a_cons (e_slot 0) (a_cons (e_bin xo .add rfl (e_slot 1) e_int) (a_cons (e_bin xo .sub rfl (e_bin xo .add rfl (e_slot 2) e_int) (e_blt (ok_len xo.K) T.n_len (a_cons (e_slot 3) a_nil))) a_nil)))) a_nil)) (g_name xo 8)
  (l_cons (s_set xo 10 (e_bin xo .add rfl (e_bin xo .add rfl (e_slot 1) e_int) (e_bin xo .mul rfl e_int (e_slot 8))))
  (l_cons (s_set xo 11 (e_idx xo (e_lst (a_cons e_non (a_cons (e_str [35]) (a_cons (e_idx xo (e_slot 3) e_int) (a_cons (e_idx xo (e_slot 3) (e_neg e_int)) a_nil))))) (e_call xo 0 (F0.at hr) (a_cons (e_slot 0) (a_cons (e_slot 10) (a_cons e_int a_nil))))))
  (l_cons (s_set xo 12 (e_idx xo (e_lst (a_cons e_non (a_cons (e_str [35]) (a_cons (e_idx xo (e_slot 3) e_int) (a_cons (e_idx xo (e_slot 3) (e_neg e_int)) a_nil))))) (e_call xo 0 (F0.at hr) (a_cons (e_slot 0) (a_cons (e_bin xo .add rfl (e_slot 10) e_int) (a_cons e_int a_nil))))))
  (l_cons (s_set xo 13 (e_tup (a_cons (e_slot 11) (a_cons (e_idx xo (e_slot 3) (e_call xo 0 (F0.at hr) (a_cons (e_slot 0) (a_cons (e_bin xo .add rfl (e_slot 10) e_int) (a_cons (e_blt (ok_len xo.K) T.n_len (a_cons (e_slot 3) a_nil)) a_nil))))) (a_cons (e_slot 12) (a_cons (e_idx xo (e_own 5) (e_call xo 0 (F0.at hr) (a_cons (e_slot 0) (a_cons (e_bin xo .add rfl (e_slot 10) e_int) (a_cons e_int a_nil))))) a_nil))))))
  (l_cons (s_set xo 14 (e_call xo 0 (F0.at hr) (a_cons (e_slot 0) (a_cons (e_bin xo .add rfl (e_slot 10) e_int) (a_cons (e_bin xo .add rfl (e_blt (ok_len xo.K) T.n_len (a_cons (e_weak (e_own 7)) a_nil)) e_int) a_nil)))))
  (l_cons (s_setO xo 7 (e_bin xo .add rfl (e_bin xo .add rfl (e_sl xo (e_own 7) o_none (o_some (e_slot 14))) (e_lst (a_cons (e_slot 13) a_nil))) (e_sl xo (e_own 7) (o_some (e_slot 14)) o_none)))
  l_nil)))))))
  (l_cons (s_ret (e_bltT (ok_tuple xo.K) T.n_tuple (a_cons (e_weak (e_own 7)) a_nil)))
  l_nil))))))))) ⟨rfl, rfl, rfl⟩
theorem s__law_letters : FnScope ["table", "row"] ["table"] (defScope (top 30)) := ⟨rfl, rfl, rfl, by decide +kernel, rfl, by decide +kernel, by decide +kernel⟩
theorem k__law_letters (T : Fx P w K mg) : Fk (G P w K) P w K mg base 1 "_law_letters" 1 d__law_letters := by
  exact k_def (Φ := tab []) (k := 0) T.f__law_letters s__law_letters [] 1000 c__law_letters (fun Fd => Fd.bindsN fun _ _ _ _ _ _ us hl => match us, hl with | [_], _ => rfl) (fun f cdv A outer s H E hr xo =>
  (l_cons (s_ret (e_sset xo T.n_sorted T.n_set (e_comp xo [("row", 1)] rfl (i_val xo (e_slot 0)) (fun _ _ _ _ _ => (g_name (xo.blk _ _ _ _ _) 1)) (fun _ _ _ _ _ => c_nil) (fun _ _ _ _ _ => (e_idx (xo.blk _ _ _ _ _) (e_slot 1) e_int)))))
  l_nil)) ⟨rfl, rfl, rfl⟩
theorem s__law_longer : FnScope ["table", "words", "made", "word", "letter"] ["table", "words"] (defScope (top 34)) := ⟨rfl, rfl, rfl, by decide +kernel, rfl, by decide +kernel, by decide +kernel⟩
theorem k__law_longer (T : Fx P w K mg) : Fk (G P w K) P w K mg base 2 "_law_longer" 2 d__law_longer := by
  have F0 := k__law_letters (P := P) (w := w) (base := base) T
  exact k_def (Φ := tab [d__law_letters]) (k := 1) T.f__law_longer s__law_longer [2] 1000 c__law_longer (fun Fd => Fd.bindsN fun _ _ _ _ _ _ us hl => match us, hl with | [_, _], _ => rfl) (fun f cdv A outer s H E hr xo =>
  (l_cons (s_setO xo 2 (e_lst a_nil))
  (l_cons (s_for xo hp_of (i_val xo (e_slot 1)) (g_name xo 3)
  (l_cons (s_ext xo 2 (e_comp xo [("letter", 4)] rfl (i_val xo (e_call xo 0 (F0.at hr) (a_cons (e_slot 0) a_nil))) (fun _ _ _ _ _ => (g_name (xo.blk _ _ _ _ _) 4)) (fun _ _ _ _ _ => c_nil) (fun _ _ _ _ _ => (e_bin (xo.blk _ _ _ _ _) .add rfl (e_slot 3) (e_slot 4)))))
  l_nil))
  (l_cons (s_retO 2)
  l_nil)))) ⟨rfl, rfl, rfl⟩
theorem s__law_words : FnScope ["table", "most", "again", "made", "last"] ["table", "most"] (defScope (top 33)) := ⟨rfl, rfl, rfl, by decide +kernel, rfl, by decide +kernel, by decide +kernel⟩
theorem k__law_words (T : Fx P w K mg) : Fk (G P w K) P w K mg base 3 "_law_words" 2 d__law_words := by
  have F0 := k__law_longer (P := P) (w := w) (base := base) T
  exact k_def (Φ := tab [d__law_longer]) (k := 2) T.f__law_words s__law_words [] 1000 c__law_words (fun Fd => Fd.bindsN fun _ _ _ _ _ _ us hl => match us, hl with | [_, _], _ => rfl) (fun f cdv A outer s H E hr xo =>
  (l_cons (s_par2 xo 3 4 (a_cons (e_lst (a_cons (e_str []) a_nil)) (a_cons (e_lst (a_cons (e_str []) a_nil)) a_nil)))
  (l_cons (s_for xo hp_of (i_rng1 T.n_range (a_cons (e_slot 1) a_nil)) (g_name xo 2)
  (l_cons (s_set xo 4 (e_call xo 0 (F0.at hr) (a_cons (e_slot 0) (a_cons (e_slot 4) a_nil))))
  (l_cons (s_set xo 3 (e_bin xo .add rfl (e_slot 3) (e_slot 4)))
  l_nil)))
  (l_cons (s_ret (e_slot 3))
  l_nil)))) ⟨rfl, rfl, rfl⟩
theorem s__law_rows_by : FnScope ["table", "word", "made", "k", "letter", "ahead", "behind", "number", "row"] ["table", "word"] (defScope (top 31)) := ⟨rfl, rfl, rfl, by decide +kernel, rfl, by decide +kernel, by decide +kernel⟩
theorem k__law_rows_by (T : Fx P w K mg) : Fk (G P w K) P w K mg base 1 "_law_rows_by" 2 d__law_rows_by := by
  exact k_def (Φ := tab []) (k := 0) T.f__law_rows_by s__law_rows_by [2] 1000 c__law_rows_by (fun Fd => Fd.bindsN fun _ _ _ _ _ _ us hl => match us, hl with | [_, _], _ => rfl) (fun f cdv A outer s H E hr xo =>
  (l_cons (s_setO xo 2 (e_lst a_nil))
  (l_cons (s_for xo hp_of (i_enumT xo T.n_enumerate (a_cons (e_slot 1) a_nil)) (g_tup xo (nm_cons 3 (nm_cons 4 .nil)))
  (l_cons (s_set xo 5 (e_ite (p_cmp xo .gt rfl (e_slot 3) e_int) (e_nofr (e_idx xo (e_slot 1) (e_bin xo .sub rfl (e_slot 3) e_int))) (e_nofr (e_str [35]))))
  (l_cons (s_set xo 6 (e_ite (p_cmp xo .lt rfl (e_bin xo .add rfl (e_slot 3) e_int) (e_blt (ok_len xo.K) T.n_len (a_cons (e_slot 1) a_nil))) (e_nofr (e_idx xo (e_slot 1) (e_bin xo .add rfl (e_slot 3) e_int))) (e_nofr (e_str [35]))))
  (l_cons (s_for xo hp_of (i_enumT xo T.n_enumerate (a_cons (e_slot 0) a_nil)) (g_tup xo (nm_cons 7 (nm_cons 8 .nil)))
  (l_cons (s_if (PW.pt (w_and (p_cmp xo .eq rfl (e_idx xo (e_slot 8) e_int) (e_slot 4)) (w_and (p_cmp xo .in_ rfl (e_idx xo (e_slot 8) e_int) (e_tup (a_cons e_non (a_cons (e_slot 5) a_nil)))) (w_one (p_cmp xo .in_ rfl (e_idx xo (e_slot 8) e_int) (e_tup (a_cons e_non (a_cons (e_slot 6) a_nil))))))))
  (l_cons (s_app xo 2 (e_slot 7))
  (l_cons s_brk
  l_nil))
  l_nil)
  l_nil))
  l_nil))))
  (l_cons (s_retO 2)
  l_nil)))) ⟨rfl, rfl, rfl⟩
theorem s_is_neighbour : FnScope ["thing"] ["thing"] (defScope (top 13)) := ⟨rfl, rfl, rfl, by decide +kernel, rfl, by decide +kernel, by decide +kernel⟩
theorem k_is_neighbour (T : Fx P w K mg) : Fk (G P w K) P w K mg base 1 "is_neighbour" 1 d_is_neighbour := by
  exact k_def (Φ := tab []) (k := 0) T.f_is_neighbour s_is_neighbour [] 1000 c_is_neighbour (fun Fd => Fd.bindsN fun _ _ _ _ _ _ us hl => match us, hl with | [_], _ => rfl) (fun f cdv A outer s H E hr xo =>
  (l_cons (s_ret (e_or (e_cmp xo .is_ rfl (e_slot 0) e_non) (e_one (e_and (e_isi xo .str (by decide) T.n_isinstance T.n_str (by decide +kernel) (e_slot 0)) (e_and (e_cmp xo .eq rfl (e_blt (ok_len xo.K) T.n_len (a_cons (e_slot 0) a_nil)) e_int) (e_one (e_cmp xo .in_ rfl (e_slot 0) (e_bin xo .add rfl (e_gstr T.c_GREAT) (e_gstr T.c_EDGE)))))))))
  l_nil)) ⟨rfl, rfl, rfl⟩
theorem s_is_text : FnScope ["thing", "sign"] ["thing"] (defScope (top 12)) := ⟨rfl, rfl, rfl, by decide +kernel, rfl, by decide +kernel, by decide +kernel⟩
theorem k_is_text (T : Fx P w K mg) : Fk (G P w K) P w K mg base 1 "is_text" 1 d_is_text := by
  exact k_def (Φ := tab []) (k := 0) T.f_is_text s_is_text [] 1000 c_is_text (fun Fd => Fd.bindsN fun _ _ _ _ _ _ us hl => match us, hl with | [_], _ => rfl) (fun f cdv A outer s H E hr xo =>
  (l_cons (s_ret (e_and (e_isi xo .str (by decide) T.n_isinstance T.n_str (by decide +kernel) (e_slot 0)) (e_one (e_blt (ok_all xo.calm) T.n_all (a_cons (e_comp xo [("sign", 1)] rfl (i_val xo (e_slot 0)) (fun _ _ _ _ _ => (g_name (xo.blk _ _ _ _ _) 1)) (fun _ _ _ _ _ => c_nil) (fun _ _ _ _ _ => (e_cmp (xo.blk _ _ _ _ _) .in_ rfl (e_slot 1) (e_bin (xo.blk _ _ _ _ _) .add rfl (e_gstr T.c_SMALL) (e_gstr T.c_MARK))))) a_nil)))))
  l_nil)) ⟨rfl, rfl, rfl⟩
theorem s_is_row : FnScope ["thing"] ["thing"] (defScope (top 14)) := ⟨rfl, rfl, rfl, by decide +kernel, rfl, by decide +kernel, by decide +kernel⟩
theorem k_is_row (T : Fx P w K mg) : Fk (G P w K) P w K mg base 2 "is_row" 1 d_is_row := by
  have F0 := k_is_neighbour (P := P) (w := w) (base := base) T
  have F1 := k_is_text (P := P) (w := w) (base := base) T
  exact k_def (Φ := tab [d_is_neighbour, d_is_text]) (k := 1) T.f_is_row s_is_row [] 1000 c_is_row (fun Fd => Fd.bindsN fun _ _ _ _ _ _ us hl => match us, hl with | [_], _ => rfl) (fun f cdv A outer s H E hr xo =>
  (l_cons (s_if (PW.pt (w_or (p_not (p_val (e_isi xo .tuple (by decide) T.n_isinstance T.n_tuple (by decide +kernel) (e_slot 0)))) (w_or (p_cmp xo .ne rfl (e_blt (ok_len xo.K) T.n_len (a_cons (e_slot 0) a_nil)) e_int) (w_or (p_not (p_val (e_call xo 0 (F0.at hr) (a_cons (e_idx xo (e_slot 0) e_int) a_nil)))) (w_one (p_not (p_val (e_call xo 0 (F0.at hr) (a_cons (e_idx xo (e_slot 0) e_int) a_nil)))))))))
  (l_cons (s_ret e_bl)
  l_nil)
  l_nil)
  (l_cons (s_if (PW.pt (w_or (p_not (p_val (e_isi xo .str (by decide) T.n_isinstance T.n_str (by decide +kernel) (e_idx xo (e_slot 0) e_int)))) (w_or (p_cmp xo .ne rfl (e_blt (ok_len xo.K) T.n_len (a_cons (e_idx xo (e_slot 0) e_int) a_nil)) e_int) (w_one (p_cmp xo .notin rfl (e_idx xo (e_slot 0) e_int) (e_gstr T.c_GREAT))))))
  (l_cons (s_ret e_bl)
  l_nil)
  l_nil)
  (l_cons (s_ret (e_and (e_call xo 1 (F1.at hr) (a_cons (e_idx xo (e_slot 0) e_int) a_nil)) (e_one (e_chain xo .le .le rfl rfl e_int (e_blt (ok_len xo.K) T.n_len (a_cons (e_idx xo (e_slot 0) e_int) a_nil)) (e_gint T.c_LONGEST)))))
  l_nil)))) ⟨rfl, rfl, rfl⟩
theorem s_is_table : FnScope ["thing", "bare", "row"] ["thing"] (defScope (top 15)) := ⟨rfl, rfl, rfl, by decide +kernel, rfl, by decide +kernel, by decide +kernel⟩
theorem k_is_table (T : Fx P w K mg) : Fk (G P w K) P w K mg base 3 "is_table" 1 d_is_table := by
  have F0 := k_is_row (P := P) (w := w) (base := base) T
  exact k_def (Φ := tab [d_is_row]) (k := 2) T.f_is_table s_is_table [] 1000 c_is_table (fun Fd => Fd.bindsN fun _ _ _ _ _ _ us hl => match us, hl with | [_], _ => rfl) (fun f cdv A outer s H E hr xo =>
  (l_cons (s_if (PW.pt (w_or (p_not (p_val (e_isi xo .tuple (by decide) T.n_isinstance T.n_tuple (by decide +kernel) (e_slot 0)))) (w_or (p_not (p_chain xo .le .le rfl rfl e_int (e_blt (ok_len xo.K) T.n_len (a_cons (e_slot 0) a_nil)) (e_gint T.c_MOST_ROWS))) (w_one (p_not (p_val (e_blt (ok_all xo.calm) T.n_all (a_cons (e_comp xo [("row", 2)] rfl (i_val xo (e_slot 0)) (fun _ _ _ _ _ => (g_name (xo.blk _ _ _ _ _) 2)) (fun _ _ _ _ _ => c_nil) (fun _ _ _ _ _ => (e_call (xo.blk _ _ _ _ _) 0 (F0.at hr) (a_cons (e_slot 2) a_nil)))) a_nil))))))))
  (l_cons (s_ret e_bl)
  l_nil)
  l_nil)
  (l_cons (s_set xo 1 (e_comp xo [("row", 2)] rfl (i_val xo (e_slot 0)) (fun _ _ _ _ _ => (g_name (xo.blk _ _ _ _ _) 2)) (fun _ _ _ _ _ => (c_one (PW.pt (w_and (p_cmp (xo.blk _ _ _ _ _) .is_ rfl (e_idx (xo.blk _ _ _ _ _) (e_slot 2) e_int) e_non) (w_one (p_cmp (xo.blk _ _ _ _ _) .is_ rfl (e_idx (xo.blk _ _ _ _ _) (e_slot 2) e_int) e_non)))))) (fun _ _ _ _ _ => (e_idx (xo.blk _ _ _ _ _) (e_slot 2) e_int))))
  (l_cons (s_ret (e_blt (ok_all xo.calm) T.n_all (a_cons (e_comp xo [("row", 2)] rfl (i_val xo (e_slot 0)) (fun _ _ _ _ _ => (g_name (xo.blk _ _ _ _ _) 2)) (fun _ _ _ _ _ => c_nil) (fun _ _ _ _ _ => (e_cmp (xo.blk _ _ _ _ _) .in_ rfl (e_idx (xo.blk _ _ _ _ _) (e_slot 2) e_int) (e_slot 1)))) a_nil)))
  l_nil)))) ⟨rfl, rfl, rfl⟩
theorem s_look_table : FnScope ["table"] ["table"] (defScope (top 16)) := ⟨rfl, rfl, rfl, by decide +kernel, rfl, by decide +kernel, by decide +kernel⟩
theorem k_look_table (T : Fx P w K mg) : Fk (G P w K) P w K mg base 4 "look_table" 1 d_look_table := by
  have F0 := k_is_table (P := P) (w := w) (base := base) T
  exact k_def (Φ := tab [d_is_table]) (k := 3) T.f_look_table s_look_table [] 1000 c_look_table (fun Fd => Fd.bindsN fun _ _ _ _ _ _ us hl => match us, hl with | [_], _ => rfl) (fun f cdv A outer s H E hr xo =>
  (l_cons (s_if (p_not (p_val (e_call xo 0 (F0.at hr) (a_cons (e_slot 0) a_nil))))
  (l_cons (s_raise xo 1 T.x_NoTable)
  l_nil)
  l_nil)
  l_nil)) ⟨rfl, rfl, rfl⟩
theorem s_look_whole : FnScope ["number", "most"] ["number", "most"] (defScope (top 23)) := ⟨rfl, rfl, rfl, by decide +kernel, rfl, by decide +kernel, by decide +kernel⟩
theorem k_look_whole (T : Fx P w K mg) : Fk (G P w K) P w K mg base 1 "look_whole" 2 d_look_whole := by
  exact k_def (Φ := tab []) (k := 0) T.f_look_whole s_look_whole [] 1000 c_look_whole (fun Fd => Fd.bindsN fun _ _ _ _ _ _ us hl => match us, hl with | [_, _], _ => rfl) (fun f cdv A outer s H E hr xo =>
  (l_cons (s_if (PW.pt (w_or (p_not (p_val (e_isi xo .int (by decide) T.n_isinstance T.n_int (by decide +kernel) (e_slot 0)))) (w_or (p_val (e_isi xo .bool (by decide) T.n_isinstance T.n_bool (by decide +kernel) (e_slot 0))) (w_one (p_not (p_chain xo .le .le rfl rfl e_int (e_slot 0) (e_slot 1)))))))
  (l_cons (s_raise xo 4 T.x_NoNumber)
  l_nil)
  l_nil)
  l_nil)) ⟨rfl, rfl, rfl⟩
theorem s_letters_of : FnScope ["table", "row"] ["table"] (defScope (top 17)) := ⟨rfl, rfl, rfl, by decide +kernel, rfl, by decide +kernel, by decide +kernel⟩
theorem k_letters_of (T : Fx P w K mg) : Fk (G P w K) P w K mg base 1 "letters_of" 1 d_letters_of := by
  exact k_def (Φ := tab []) (k := 0) T.f_letters_of s_letters_of [] 1000 c_letters_of (fun Fd => Fd.bindsN fun _ _ _ _ _ _ us hl => match us, hl with | [_], _ => rfl) (fun f cdv A outer s H E hr xo =>
  (l_cons (s_ret (e_sset xo T.n_sorted T.n_set (e_comp xo [("row", 1)] rfl (i_val xo (e_slot 0)) (fun _ _ _ _ _ => (g_name (xo.blk _ _ _ _ _) 1)) (fun _ _ _ _ _ => c_nil) (fun _ _ _ _ _ => (e_idx (xo.blk _ _ _ _ _) (e_slot 1) e_int)))))
  l_nil)) ⟨rfl, rfl, rfl⟩
theorem s_goes : FnScope ["row", "ahead", "letter", "behind"] ["row", "ahead", "letter", "behind"] (defScope (top 18)) := ⟨rfl, rfl, rfl, by decide +kernel, rfl, by decide +kernel, by decide +kernel⟩
theorem k_goes (T : Fx P w K mg) : Fk (G P w K) P w K mg base 1 "goes" 4 d_goes := by
  exact k_def (Φ := tab []) (k := 0) T.f_goes s_goes [] 1000 c_goes (fun Fd => Fd.bindsN fun _ _ _ _ _ _ us hl => match us, hl with | [_, _, _, _], _ => rfl) (fun f cdv A outer s H E hr xo =>
  (l_cons (s_ret (e_and (e_cmp xo .eq rfl (e_idx xo (e_slot 0) e_int) (e_slot 2)) (e_and (e_cmp xo .in_ rfl (e_idx xo (e_slot 0) e_int) (e_tup (a_cons e_non (a_cons (e_slot 1) a_nil)))) (e_one (e_cmp xo .in_ rfl (e_idx xo (e_slot 0) e_int) (e_tup (a_cons e_non (a_cons (e_slot 3) a_nil))))))))
  l_nil)) ⟨rfl, rfl, rfl⟩
theorem s_row_for : FnScope ["table", "ahead", "letter", "behind", "number", "row"] ["table", "ahead", "letter", "behind"] (defScope (top 19)) := ⟨rfl, rfl, rfl, by decide +kernel, rfl, by decide +kernel, by decide +kernel⟩
theorem k_row_for (T : Fx P w K mg) : Fk (G P w K) P w K mg base 2 "row_for" 4 d_row_for := by
  have F0 := k_goes (P := P) (w := w) (base := base) T
  exact k_def (Φ := tab [d_goes]) (k := 1) T.f_row_for s_row_for [] 1000 c_row_for (fun Fd => Fd.bindsN fun _ _ _ _ _ _ us hl => match us, hl with | [_, _, _, _], _ => rfl) (fun f cdv A outer s H E hr xo =>
  (l_cons (s_ret (e_idx xo (e_comp xo [("number", 4), ("row", 5)] rfl (i_enumT xo T.n_enumerate (a_cons (e_slot 0) a_nil)) (fun _ _ _ _ _ => (g_tup (xo.blk _ _ _ _ _) (nm_cons 4 (nm_cons 5 .nil)))) (fun _ _ _ _ _ => (c_one (p_val (e_call (xo.blk _ _ _ _ _) 0 (F0.at hr) (a_cons (e_slot 5) (a_cons (e_slot 1) (a_cons (e_slot 2) (a_cons (e_slot 3) a_nil)))))))) (fun _ _ _ _ _ => (e_slot 4))) e_int))
  l_nil)) ⟨rfl, rfl, rfl⟩
theorem s_ways_of : FnScope ["letters", "many", "made", "again"] ["letters", "many"] (defScope (top 24)) := ⟨rfl, rfl, rfl, by decide +kernel, rfl, by decide +kernel, by decide +kernel⟩
theorem k_ways_of (T : Fx P w K mg) : Fk (G P w K) P w K mg base 1 "ways_of" 2 d_ways_of := by
  exact k_def (Φ := tab []) (k := 0) T.f_ways_of s_ways_of [] 1000 c_ways_of (fun Fd => Fd.bindsN fun _ _ _ _ _ _ us hl => match us, hl with | [_, _], _ => rfl) (fun f cdv A outer s H E hr xo =>
  (l_cons (s_set xo 2 e_int)
  (l_cons (s_for xo hp_of (i_rng1 T.n_range (a_cons (e_slot 1) a_nil)) (g_name xo 3)
  (l_cons (s_set xo 2 (e_bin xo .mul rfl (e_slot 2) (e_slot 0)))
  l_nil))
  (l_cons (s_ret (e_slot 2))
  l_nil)))) ⟨rfl, rfl, rfl⟩
theorem s_row_shares : FnScope ["table", "many", "some", "made", "place", "ahead", "letter", "behind", "fixed", "number"] ["table", "many"] (defScope (top 25)) := ⟨rfl, rfl, rfl, by decide +kernel, rfl, by decide +kernel, by decide +kernel⟩
theorem k_row_shares (T : Fx P w K mg) : Fk (G P w K) P w K mg base 5 "row_shares" 2 d_row_shares := by
  have F0 := k_look_table (P := P) (w := w) (base := base) T
  have F1 := k_look_whole (P := P) (w := w) (base := base) T
  have F2 := k_letters_of (P := P) (w := w) (base := base) T
  have F3 := k_row_for (P := P) (w := w) (base := base) T
  have F4 := k_ways_of (P := P) (w := w) (base := base) T
  exact k_def (Φ := tab [d_look_table, d_look_whole, d_letters_of, d_row_for, d_ways_of]) (k := 4) T.f_row_shares s_row_shares [3] 1000 c_row_shares (fun Fd => Fd.bindsN fun _ _ _ _ _ _ us hl => match us, hl with | [_, _], _ => rfl) (fun f cdv A outer s H E hr xo =>
  (l_cons (s_expr (e_call xo 0 (F0.at hr) (a_cons (e_slot 0) a_nil)))
  (l_cons (s_expr (e_call xo 1 (F1.at hr) (a_cons (e_slot 1) (a_cons (e_gint T.c_MOST_LETTERS) a_nil))))
  (l_cons (s_set xo 2 (e_call xo 2 (F2.at hr) (a_cons (e_slot 0) a_nil)))
  (l_cons (s_setO xo 3 (e_bin xo .mul rfl (e_lst (a_cons e_int a_nil)) (e_blt (ok_len xo.K) T.n_len (a_cons (e_slot 0) a_nil))))
  (l_cons (s_for xo hp_of (i_rng1 T.n_range (a_cons (e_slot 1) a_nil)) (g_name xo 4)
  (l_cons (s_for xo hp_of (i_val xo (e_ite (p_cmp xo .gt rfl (e_slot 4) e_int) (e_nofr (e_slot 2)) (e_nofr (e_lst (a_cons (e_gstr T.c_EDGE) a_nil))))) (g_name xo 5)
  (l_cons (s_for xo hp_of (i_val xo (e_slot 2)) (g_name xo 6)
  (l_cons (s_for xo hp_of (i_val xo (e_ite (p_cmp xo .lt rfl (e_slot 4) (e_bin xo .sub rfl (e_slot 1) e_int)) (e_nofr (e_slot 2)) (e_nofr (e_lst (a_cons (e_gstr T.c_EDGE) a_nil))))) (g_name xo 7)
  (l_cons (s_set xo 8 (e_bin xo .add rfl (e_bin xo .add rfl e_int (e_bltT ok_int T.n_int (a_cons (e_cmp xo .ne rfl (e_slot 5) (e_gstr T.c_EDGE)) a_nil))) (e_bltT ok_int T.n_int (a_cons (e_cmp xo .ne rfl (e_slot 7) (e_gstr T.c_EDGE)) a_nil))))
  (l_cons (s_set xo 9 (e_call xo 3 (F3.at hr) (a_cons (e_slot 0) (a_cons (e_slot 5) (a_cons (e_slot 6) (a_cons (e_slot 7) a_nil))))))
  (l_cons (s_lset xo 3 (e_slot 9) (e_bin xo .add rfl (e_idx xo (e_own 3) (e_slot 9)) (e_call xo 4 (F4.at hr) (a_cons (e_blt (ok_len xo.K) T.n_len (a_cons (e_slot 2) a_nil)) (a_cons (e_bin xo .sub rfl (e_slot 1) (e_slot 8)) a_nil)))))
  l_nil))))
  l_nil))
  l_nil))
  l_nil))
  (l_cons (s_retO 3)
  l_nil))))))) ⟨rfl, rfl, rfl⟩
theorem s__law_power : FnScope ["one", "many", "made", "again"] ["one", "many"] (defScope (top 35)) := ⟨rfl, rfl, rfl, by decide +kernel, rfl, by decide +kernel, by decide +kernel⟩
theorem k__law_power (T : Fx P w K mg) : Fk (G P w K) P w K mg base 1 "_law_power" 2 d__law_power := by
  exact k_def (Φ := tab []) (k := 0) T.f__law_power s__law_power [] 1000 c__law_power (fun Fd => Fd.bindsN fun _ _ _ _ _ _ us hl => match us, hl with | [_, _], _ => rfl) (fun f cdv A outer s H E hr xo =>
  (l_cons (s_set xo 2 e_int)
  (l_cons (s_for xo hp_of (i_rng1 T.n_range (a_cons (e_slot 1) a_nil)) (g_name xo 3)
  (l_cons (s_set xo 2 (e_bin xo .mul rfl (e_slot 2) (e_slot 0)))
  l_nil))
  (l_cons (s_ret (e_slot 2))
  l_nil)))) ⟨rfl, rfl, rfl⟩
theorem s_never_used : FnScope ["table", "some", "seen", "ahead", "letter", "number", "behind"] ["table"] (defScope (top 21)) := ⟨rfl, rfl, rfl, by decide +kernel, rfl, by decide +kernel, by decide +kernel⟩
theorem k_never_used (T : Fx P w K mg) : Fk (G P w K) P w K mg base 5 "never_used" 1 d_never_used := by
  have F0 := k_look_table (P := P) (w := w) (base := base) T
  have F1 := k_letters_of (P := P) (w := w) (base := base) T
  have F2 := k_row_for (P := P) (w := w) (base := base) T
  exact k_def (Φ := tab [d_look_table, d_letters_of, d_row_for]) (k := 4) T.f_never_used s_never_used [2] 1000 c_never_used (fun Fd => Fd.bindsN fun _ _ _ _ _ _ us hl => match us, hl with | [_], _ => rfl) (fun f cdv A outer s H E hr xo =>
  (l_cons (s_expr (e_call xo 0 (F0.at hr) (a_cons (e_slot 0) a_nil)))
  (l_cons (s_set xo 1 (e_bin xo .add rfl (e_call xo 1 (F1.at hr) (a_cons (e_slot 0) a_nil)) (e_lst (a_cons (e_gstr T.c_EDGE) a_nil))))
  (l_cons (s_setO xo 2 (e_lst a_nil))
  (l_cons (s_for xo hp_of (i_val xo (e_slot 1)) (g_name xo 3)
  (l_cons (s_for xo hp_of (i_val xo (e_call xo 1 (F1.at hr) (a_cons (e_slot 0) a_nil))) (g_name xo 4)
  (l_cons (s_ext xo 2 (e_comp xo [("behind", 6)] rfl (i_val xo (e_slot 1)) (fun _ _ _ _ _ => (g_name (xo.blk _ _ _ _ _) 6)) (fun _ _ _ _ _ => c_nil) (fun _ _ _ _ _ => (e_call (xo.blk _ _ _ _ _) 2 (F2.at hr) (a_cons (e_slot 0) (a_cons (e_slot 3) (a_cons (e_slot 4) (a_cons (e_slot 6) a_nil))))))))
  l_nil))
  l_nil))
  (l_cons (s_ret (e_comp xo [("number", 5)] rfl (i_rng1 T.n_range (a_cons (e_blt (ok_len xo.K) T.n_len (a_cons (e_slot 0) a_nil)) a_nil)) (fun _ _ _ _ _ => (g_name (xo.blk _ _ _ _ _) 5)) (fun _ _ _ _ _ => (c_one (p_cmp (xo.blk _ _ _ _ _) .notin rfl (e_slot 5) (e_own 2)))) (fun _ _ _ _ _ => (e_slot 5))))
  l_nil)))))) ⟨rfl, rfl, rfl⟩
theorem s_law : FnScope ["script", "table", "letters", "most", "due", "word", "many", "told", "some", "number", "size", "one"] ["script"] (defScope (top 36)) := ⟨rfl, rfl, rfl, by decide +kernel, rfl, by decide +kernel, by decide +kernel⟩
theorem o_law (T : Fx P w K mg) {f : Addr} {fd : FuncData} (Fd : FunD K "law" "law" (defArgs (top 36)) (defBody (top 36)) (defScope (top 36)) [] [] f fd) : FnOk P w K mg base (L2.CX P w) 6 f fd ["script"] (spD (G P w K) 1 d_law) := by
  have F0 := k__law_table (P := P) (w := w) (base := base) T
  have F1 := k__law_letters (P := P) (w := w) (base := base) T
  have F2 := k__law_words (P := P) (w := w) (base := base) T
  have F3 := k__law_rows_by (P := P) (w := w) (base := base) T
  have F4 := k_row_shares (P := P) (w := w) (base := base) T
  have F5 := k__law_pick (P := P) (w := w) (base := base) T
  have F6 := k__law_power (P := P) (w := w) (base := base) T
  have F7 := k_never_used (P := P) (w := w) (base := base) T
  exact k_fn (Φ := tab [d__law_table, d__law_letters, d__law_words, d__law_rows_by, d_row_shares, d__law_pick, d__law_power, d_never_used]) (k := 5) Fd s_law [] 1000 c_law (fun f cdv A outer s H E hr xo =>
  (l_cons (s_set xo 1 (e_call xo 0 (F0.at hr) (a_cons (e_slot 0) (a_cons e_int (a_cons e_int a_nil)))))
  (l_cons (s_set xo 2 (e_blt (ok_len xo.K) T.n_len (a_cons (e_call xo 1 (F1.at hr) (a_cons (e_slot 1) a_nil)) a_nil)))
  (l_cons (s_set xo 3 (e_ite (p_cmp xo .eq rfl (e_slot 2) e_int) (e_nofr e_int) (e_nofr e_int)))
  (l_cons (s_setC xo 4 [("many", 6)] rfl (i_rng1 T.n_range (a_cons (e_bin xo .add rfl (e_slot 3) e_int) a_nil)) (fun _ _ _ _ _ => (g_name (xo.blk _ _ _ _ _) 6)) (fun _ _ _ _ _ => c_nil) (fun _ _ _ _ _ => (e_box (e_bin (xo.blk _ _ _ _ _) .mul rfl (e_lst (a_cons e_int a_nil)) (e_blt (ok_len (xo.blk _ _ _ _ _).K) T.n_len (a_cons (e_slot 1) a_nil))))))
  (l_cons (s_for xo hp_of (i_val xo (e_call xo 2 (F2.at hr) (a_cons (e_slot 1) (a_cons (e_slot 3) a_nil)))) (g_name xo 5)
  (l_cons (s_for xo hp_of (i_val xo (e_call xo 3 (F3.at hr) (a_cons (e_slot 1) (a_cons (e_slot 5) a_nil)))) (g_name xo 9)
  (l_cons (s_bset xo (e_idx xo (e_slot 4) (e_blt (ok_len xo.K) T.n_len (a_cons (e_slot 5) a_nil))) (e_slot 9) (e_bin xo .add rfl (e_bidx xo (e_idx xo (e_slot 4) (e_blt (ok_len xo.K) T.n_len (a_cons (e_slot 5) a_nil))) (e_slot 9)) e_int))
  l_nil))
  l_nil))
  (l_cons (s_if (p_dcmp xo false (.inr ⟨rfl, rfl⟩) (e_comp xo [("many", 6)] rfl (i_rng1 T.n_range (a_cons (e_bin xo .add rfl (e_slot 3) e_int) a_nil)) (fun _ _ _ _ _ => (g_name (xo.blk _ _ _ _ _) 6)) (fun _ _ _ _ _ => c_nil) (fun _ _ _ _ _ => (e_call (xo.blk _ _ _ _ _) 4 (F4.at hr) (a_cons (e_slot 1) (a_cons (e_slot 6) a_nil))))) (e_slot 4))
  (l_cons (s_ret e_bl)
  l_nil)
  l_nil)
  (l_cons (s_set xo 6 (e_bin xo .add rfl e_int (e_call xo 5 (F5.at hr) (a_cons (e_slot 0) (a_cons e_int (a_cons e_int a_nil))))))
  (l_cons (s_set xo 7 (e_call xo 4 (F4.at hr) (a_cons (e_slot 1) (a_cons (e_slot 6) a_nil))))
  (l_cons (s_if (p_cmp xo .ne rfl (e_blt (ok_sum xo.calm) T.n_sum (a_cons (e_slot 7) a_nil)) (e_bin xo .mul rfl (e_slot 6) (e_call xo 6 (F6.at hr) (a_cons (e_slot 2) (a_cons (e_slot 6) a_nil)))))
  (l_cons (s_ret e_bl)
  l_nil)
  l_nil)
  (l_cons (s_set xo 8 (e_comp xo [("size", 10)] rfl (i_rng2 T.n_range (a_cons e_int (a_cons e_int a_nil))) (fun _ _ _ _ _ => (g_name (xo.blk _ _ _ _ _) 10)) (fun _ _ _ _ _ => c_nil) (fun _ _ _ _ _ => (e_call (xo.blk _ _ _ _ _) 4 (F4.at hr) (a_cons (e_slot 1) (a_cons (e_slot 10) a_nil))))))
  (l_cons (s_ret (e_cmp xo .eq rfl (e_comp xo [("number", 9)] rfl (i_rng1 T.n_range (a_cons (e_blt (ok_len xo.K) T.n_len (a_cons (e_slot 1) a_nil)) a_nil)) (fun _ _ _ _ _ => (g_name (xo.blk _ _ _ _ _) 9)) (fun _ _ _ _ _ => (c_one (p_cmp (xo.blk _ _ _ _ _) .eq rfl (e_blt (ok_sum (xo.blk _ _ _ _ _).calm) T.n_sum (a_cons (e_comp (xo.blk _ _ _ _ _) [("one", 11)] rfl (i_val (xo.blk _ _ _ _ _) (e_slot 8)) (fun _ _ _ _ _ => (g_name ((xo.blk _ _ _ _ _).blk _ _ _ _ _) 11)) (fun _ _ _ _ _ => c_nil) (fun _ _ _ _ _ => (e_idx ((xo.blk _ _ _ _ _).blk _ _ _ _ _) (e_slot 11) (e_slot 9)))) a_nil)) e_int))) (fun _ _ _ _ _ => (e_slot 9))) (e_call xo 7 (F7.at hr) (a_cons (e_slot 1) a_nil))))
  l_nil)))))))))))) ⟨rfl, rfl, rfl⟩
end
def D__law_cell : He.DefD := ⟨("_law_cell", none), "_law_cell", "_law_cell", defArgs (top 27), defBody (top 27), defScope (top 27), [], []⟩
def D__law_pick : He.DefD := ⟨("_law_pick", none), "_law_pick", "_law_pick", defArgs (top 28), defBody (top 28), defScope (top 28), [], []⟩
def D__law_table : He.DefD := ⟨("_law_table", none), "_law_table", "_law_table", defArgs (top 29), defBody (top 29), defScope (top 29), [], []⟩
def D__law_letters : He.DefD := ⟨("_law_letters", none), "_law_letters", "_law_letters", defArgs (top 30), defBody (top 30), defScope (top 30), [], []⟩
def D__law_longer : He.DefD := ⟨("_law_longer", none), "_law_longer", "_law_longer", defArgs (top 34), defBody (top 34), defScope (top 34), [], []⟩
def D__law_words : He.DefD := ⟨("_law_words", none), "_law_words", "_law_words", defArgs (top 33), defBody (top 33), defScope (top 33), [], []⟩
def D__law_rows_by : He.DefD := ⟨("_law_rows_by", none), "_law_rows_by", "_law_rows_by", defArgs (top 31), defBody (top 31), defScope (top 31), [], []⟩
def D_is_neighbour : He.DefD := ⟨("is_neighbour", none), "is_neighbour", "is_neighbour", defArgs (top 13), defBody (top 13), defScope (top 13), [], []⟩
def D_is_text : He.DefD := ⟨("is_text", none), "is_text", "is_text", defArgs (top 12), defBody (top 12), defScope (top 12), [], []⟩
def D_is_row : He.DefD := ⟨("is_row", none), "is_row", "is_row", defArgs (top 14), defBody (top 14), defScope (top 14), [], []⟩
def D_is_table : He.DefD := ⟨("is_table", none), "is_table", "is_table", defArgs (top 15), defBody (top 15), defScope (top 15), [], []⟩
def D_look_table : He.DefD := ⟨("look_table", none), "look_table", "look_table", defArgs (top 16), defBody (top 16), defScope (top 16), [], []⟩
def D_look_whole : He.DefD := ⟨("look_whole", none), "look_whole", "look_whole", defArgs (top 23), defBody (top 23), defScope (top 23), [], []⟩
def D_letters_of : He.DefD := ⟨("letters_of", none), "letters_of", "letters_of", defArgs (top 17), defBody (top 17), defScope (top 17), [], []⟩
def D_goes : He.DefD := ⟨("goes", none), "goes", "goes", defArgs (top 18), defBody (top 18), defScope (top 18), [], []⟩
def D_row_for : He.DefD := ⟨("row_for", none), "row_for", "row_for", defArgs (top 19), defBody (top 19), defScope (top 19), [], []⟩
def D_ways_of : He.DefD := ⟨("ways_of", none), "ways_of", "ways_of", defArgs (top 24), defBody (top 24), defScope (top 24), [], []⟩
def D_row_shares : He.DefD := ⟨("row_shares", none), "row_shares", "row_shares", defArgs (top 25), defBody (top 25), defScope (top 25), [], []⟩
def D__law_power : He.DefD := ⟨("_law_power", none), "_law_power", "_law_power", defArgs (top 35), defBody (top 35), defScope (top 35), [], []⟩
def D_never_used : He.DefD := ⟨("never_used", none), "never_used", "never_used", defArgs (top 21), defBody (top 21), defScope (top 21), [], []⟩
def D_law : He.DefD := ⟨("law", none), "law", "law", defArgs (top 36), defBody (top 36), defScope (top 36), [], []⟩
def fn : List He.DefD := [D__law_cell, D__law_pick, D__law_table, D__law_letters, D__law_longer, D__law_words, D__law_rows_by, D_is_neighbour, D_is_text, D_is_row, D_is_table, D_look_table, D_look_whole, D_letters_of, D_goes, D_row_for, D_ways_of, D_row_shares, D__law_power, D_never_used, D_law]
def fa : List He.Fa := [.glo "_law_cell", .glo "_law_pick", .glo "_law_table", .glo "_law_letters", .glo "_law_longer", .glo "_law_words", .glo "_law_rows_by", .glo "is_neighbour", .glo "is_text", .glo "is_row", .glo "is_table", .glo "look_table", .glo "look_whole", .glo "letters_of", .glo "goes", .glo "row_for", .glo "ways_of", .glo "row_shares", .glo "_law_power", .glo "never_used", .glo "law", .free "len", .free "range", .free "sum", .free "int", .free "enumerate", .free "tuple", .free "sorted", .free "set", .free "isinstance", .free "all", .free "str", .free "bool", .int "MOST_LETTERS" 24, .str "EDGE" (txt [35]), .int "MOST_ROWS" 10, .str "GREAT" (txt [65, 66, 67, 68, 69, 70, 71, 72]), .int "LONGEST" 3, .str "SMALL" (txt [97, 98, 99, 100, 101, 102, 103, 104, 105, 106, 107, 108, 109, 110, 111, 112, 113, 114, 115, 116, 117, 118, 119, 120, 121, 122]), .str "MARK" (txt [39]), .glo "NoTable", .exc "NoTable", .glo "NoNumber", .exc "NoNumber"]
def ex (K : PySem.W.Frag) : Bool := true
def loose0 : List PySem.Str := ["LetterError", "NoTable", "NoNumber", "GREAT", "SMALL", "MARK", "EDGE", "MOST_ROWS", "LONGEST", "MOST_LETTERS", "is_text", "is_neighbour", "is_row", "is_table", "look_table", "letters_of", "goes", "row_for", "never_used", "look_whole", "ways_of", "row_shares", "_law_cell", "_law_pick", "_law_table", "_law_letters", "_law_rows_by", "_law_written", "_law_words", "_law_longer"]
def loose1 : List PySem.Str := ["_law_power"]
def loose : List PySem.Str := loose0 ++ loose1
abbrev R : PySem.W.OpenRow := PySem.W.OpenLaw.row PySem.Challenge.rw_writtenback_k60_whole_shares
abbrev hk : PySem.W.Hook := hookM 4 fa fn ex
def ob (s : PySem.W.SharedT) : Bool × He.AlD := obsM 4 fa fn ex (HandSHeadRun.getT s)
theorem ob_eq (s : PySem.W.SharedT) : ob s = hk.obs s.abs := obsM_eq (HandSHeadRun.getT_eq s)
theorem run (w : World) : HandSHeadRun.RunEq R (PySem.W.view R.prog [36]) hk ob 6000 loose w := by
  intro os
  kernel_rfl
theorem facts (P : Program) (w : World) {K : PySem.W.Frag} {h : Heap} {mg : PySem.Str → Option Value} (X : K.In h) (N : h.Ns mainGlobals mg) (c : He.SaysD fa fn K) (e : ex K = true) : Fx P w K mg where
  n_len := He.free_ok X N (c.fact 21 rfl)
  n_range := He.free_ok X N (c.fact 22 rfl)
  n_sum := He.free_ok X N (c.fact 23 rfl)
  n_int := He.free_ok X N (c.fact 24 rfl)
  n_enumerate := He.free_ok X N (c.fact 25 rfl)
  n_tuple := He.free_ok X N (c.fact 26 rfl)
  n_sorted := He.free_ok X N (c.fact 27 rfl)
  n_set := He.free_ok X N (c.fact 28 rfl)
  n_isinstance := He.free_ok X N (c.fact 29 rfl)
  n_all := He.free_ok X N (c.fact 30 rfl)
  n_str := He.free_ok X N (c.fact 31 rfl)
  n_bool := He.free_ok X N (c.fact 32 rfl)
  c_MOST_LETTERS := He.int_ok X N (c.fact 33 rfl)
  c_EDGE := He.str_ok X N (c.fact 34 rfl)
  c_MOST_ROWS := He.int_ok X N (c.fact 35 rfl)
  c_GREAT := He.str_ok X N (c.fact 36 rfl)
  c_LONGEST := He.int_ok X N (c.fact 37 rfl)
  c_SMALL := He.str_ok X N (c.fact 38 rfl)
  c_MARK := He.str_ok X N (c.fact 39 rfl)
  x_NoTable := ⟨He.glo_ok X N (c.fact 40 rfl), (He.exc_ok (c.fact 41 rfl)).1, (He.exc_ok (c.fact 41 rfl)).2.1, (He.exc_ok (c.fact 41 rfl)).2.2.1, (He.exc_ok (c.fact 41 rfl)).2.2.2⟩
  x_NoNumber := ⟨He.glo_ok X N (c.fact 42 rfl), (He.exc_ok (c.fact 43 rfl)).1, (He.exc_ok (c.fact 43 rfl)).2.1, (He.exc_ok (c.fact 43 rfl)).2.2.1, (He.exc_ok (c.fact 43 rfl)).2.2.2⟩
  f__law_cell := let ⟨fd, F⟩ := c.def_ 0 (d := D__law_cell) rfl; ⟨_, fd, He.glo_ok X N (c.fact 0 rfl), F⟩
  f__law_pick := let ⟨fd, F⟩ := c.def_ 1 (d := D__law_pick) rfl; ⟨_, fd, He.glo_ok X N (c.fact 1 rfl), F⟩
  f__law_table := let ⟨fd, F⟩ := c.def_ 2 (d := D__law_table) rfl; ⟨_, fd, He.glo_ok X N (c.fact 2 rfl), F⟩
  f__law_letters := let ⟨fd, F⟩ := c.def_ 3 (d := D__law_letters) rfl; ⟨_, fd, He.glo_ok X N (c.fact 3 rfl), F⟩
  f__law_longer := let ⟨fd, F⟩ := c.def_ 4 (d := D__law_longer) rfl; ⟨_, fd, He.glo_ok X N (c.fact 4 rfl), F⟩
  f__law_words := let ⟨fd, F⟩ := c.def_ 5 (d := D__law_words) rfl; ⟨_, fd, He.glo_ok X N (c.fact 5 rfl), F⟩
  f__law_rows_by := let ⟨fd, F⟩ := c.def_ 6 (d := D__law_rows_by) rfl; ⟨_, fd, He.glo_ok X N (c.fact 6 rfl), F⟩
  f_is_neighbour := let ⟨fd, F⟩ := c.def_ 7 (d := D_is_neighbour) rfl; ⟨_, fd, He.glo_ok X N (c.fact 7 rfl), F⟩
  f_is_text := let ⟨fd, F⟩ := c.def_ 8 (d := D_is_text) rfl; ⟨_, fd, He.glo_ok X N (c.fact 8 rfl), F⟩
  f_is_row := let ⟨fd, F⟩ := c.def_ 9 (d := D_is_row) rfl; ⟨_, fd, He.glo_ok X N (c.fact 9 rfl), F⟩
  f_is_table := let ⟨fd, F⟩ := c.def_ 10 (d := D_is_table) rfl; ⟨_, fd, He.glo_ok X N (c.fact 10 rfl), F⟩
  f_look_table := let ⟨fd, F⟩ := c.def_ 11 (d := D_look_table) rfl; ⟨_, fd, He.glo_ok X N (c.fact 11 rfl), F⟩
  f_look_whole := let ⟨fd, F⟩ := c.def_ 12 (d := D_look_whole) rfl; ⟨_, fd, He.glo_ok X N (c.fact 12 rfl), F⟩
  f_letters_of := let ⟨fd, F⟩ := c.def_ 13 (d := D_letters_of) rfl; ⟨_, fd, He.glo_ok X N (c.fact 13 rfl), F⟩
  f_goes := let ⟨fd, F⟩ := c.def_ 14 (d := D_goes) rfl; ⟨_, fd, He.glo_ok X N (c.fact 14 rfl), F⟩
  f_row_for := let ⟨fd, F⟩ := c.def_ 15 (d := D_row_for) rfl; ⟨_, fd, He.glo_ok X N (c.fact 15 rfl), F⟩
  f_ways_of := let ⟨fd, F⟩ := c.def_ 16 (d := D_ways_of) rfl; ⟨_, fd, He.glo_ok X N (c.fact 16 rfl), F⟩
  f_row_shares := let ⟨fd, F⟩ := c.def_ 17 (d := D_row_shares) rfl; ⟨_, fd, He.glo_ok X N (c.fact 17 rfl), F⟩
  f__law_power := let ⟨fd, F⟩ := c.def_ 18 (d := D__law_power) rfl; ⟨_, fd, He.glo_ok X N (c.fact 18 rfl), F⟩
  f_never_used := let ⟨fd, F⟩ := c.def_ 19 (d := D_never_used) rfl; ⟨_, fd, He.glo_ok X N (c.fact 19 rfl), F⟩
  f_law := let ⟨fd, F⟩ := c.def_ 20 (d := D_law) rfl; ⟨_, fd, He.glo_ok X N (c.fact 20 rfl), F⟩
end WB.K60
open PySem PySem.W PySem.Calls PyProof.Rows
theorem PySem.Challenge.cw_writtenback_k60_whole_shares_holds : PySem.Challenge.rw_writtenback_k60_whole_shares.Holds := by
  w_on; o_law
  refine HandSHeadRun.head_any (r := OpenLaw.row PySem.Challenge.rw_writtenback_k60_whole_shares) (q := view (OpenLaw.row PySem.Challenge.rw_writtenback_k60_whole_shares).prog [36]) (H := WB.K60.hk) (ob := WB.K60.ob) (M := 6000) (loose := WB.K60.loose) (d := HandSHeadRun.topDef (OpenLaw.row PySem.Challenge.rw_writtenback_k60_whole_shares).prog 36) (kwd := []) WB.K60.ob_eq
    (by kernel_rfl) (fun s => by kernel_rfl) WB.K60.run (by kernel_rfl) (by kernel_rfl) (by kernel_rfl) (by rfl) (by first | assumption | decide +kernel) (by decide +kernel) ⟨rfl, rfl, rfl, rfl, rfl, by decide +kernel⟩ ?hw ?hc
  case hw => w_witness2
  case hc =>
    refine L2.walk_ofE (l := PySem.Challenge.rw_writtenback_k60_whole_shares) (n := 63) (k := 6) (x := "script") (CX := L2.CX0) rfl (by decide) (by kernel_rfl) ⟨rfl, by decide, by decide⟩ ?F (fun _ _ _ _ z => z)
    intro w mg fa h Y G hmg0
    obtain ⟨K, KX, c, ex⟩ := Y
    have hmg : mg ("law" : PySem.Str) = some (.ref fa) := by
      have e : (HandSHeadRun.topDef (OpenLaw.row PySem.Challenge.rw_writtenback_k60_whole_shares).prog 36).name = ("law" : PySem.Str) := by kernel_rfl
      rw [← e]
      exact hmg0
    have T := WB.K60.facts PySem.Challenge.rw_writtenback_k60_whole_shares.prog w KX G c ex
    obtain ⟨f, fd, hf, F⟩ := T.f_law
    have ef := hmg.symm.trans hf
    cases ef
    have b := L2.FunD.bindsA (ps := ["script"]) F fun _ _ _ _ _ _ us hl => match us, hl with | [_], _ => rfl
    exact ⟨K, fd, fun vs H Q E => WB.spD (WB.K60.G PySem.Challenge.rw_writtenback_k60_whole_shares.prog w K) 1 WB.K60.d_law vs H Q (fun _ _ _ => False), KX, fun s v => b s [v] rfl, fun H a ns hl only hS => let ⟨_, q⟩ := WB.K60.law_true ns hl; WB.law_sp rfl rfl only hS q, fun base _ _ => WB.fn_shut (WB.K60.o_law T F)⟩
