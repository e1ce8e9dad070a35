import PyProof.Rows.All
import Wide.All
import OpenK.AllK
import Wide.FinOn
import Lean
import HandS.Base
import HandS.Call
import HandS.List
import HandS.Comp
import HandS.Ends
import HandS.Dict
import HandS.Iter
import HandS.TupSets
import HandS.TupMul
import HandS.Conv
import HandS.Text
import HandS.More
import HandS.Words
import HandS.WordsDict
import HandS.IsInst
import HandS.TupAny
import HandS.Deep
import HandS.SortInts
import HandS.Rev
import HandS.Wide
import HandS.Style
import HandS.Defaults
import HandS.Head0
import HandS.Head1
import HandS.Head2
import HandS.HeadEnd
import HandS.HeadHook1
import HandS.HeadHook2
import HandS.NoneIn
import HandS.Small
import HandS.HeadHook3
import HandS.HeadHook4
import PySem.Challenge.RW_everystore_k86_whole_fronts_know_what_wa
set_option Elab.async false
set_option linter.all false
set_option maxRecDepth 100000
set_option maxHeartbeats 4000000
/-! Rf1: a small pure machine for the text's own functions. Values are plain data; a mutable list or dict is owned by one name of the frame, or handed in by the caller and handed back. -/
namespace PySem.PyData
mutual
def beqD : PyData → PyData → Bool
  | .none, .none => true
  | .bool a, .bool b => a == b
  | .int a, .int b => decide (a = b)
  | .str a, .str b => decide (a = b)
  | .list a, .list b => beqDs a b
  | .tuple a, .tuple b => beqDs a b
  | _, _ => false
def beqDs : List PyData → List PyData → Bool
  | [], [] => true
  | a :: r, b :: q => beqD a b && beqDs r q
  | _, _ => false
end
mutual
theorem beqD_eq : ∀ {a b : PyData}, beqD a b = true → a = b
  | .none, .none, _ => rfl
  | .bool a, .bool b, h => congrArg _ (eq_of_beq (by simpa only [beqD] using h))
  | .int a, .int b, h => congrArg _ (of_decide_eq_true (by simpa only [beqD] using h))
  | .str a, .str b, h => congrArg _ (of_decide_eq_true (by simpa only [beqD] using h))
  | .list a, .list b, h => congrArg _ (beqDs_eq (by simpa only [beqD] using h))
  | .tuple a, .tuple b, h => congrArg _ (beqDs_eq (by simpa only [beqD] using h))
theorem beqDs_eq : ∀ {a b : List PyData}, beqDs a b = true → a = b
  | [], [], _ => rfl
  | a :: r, b :: q, h => by
    have h := Bool.and_eq_true_iff.mp (show (beqD a b && beqDs r q) = true by simpa only [beqDs] using h)
    rw [beqD_eq h.1, beqDs_eq h.2]
end
end PySem.PyData
namespace Rf
open PySem

/-- a mutable object -/
inductive MO where
  | l (xs : List PyData)
  | d (ks : List (L2.Key × PyData))
/-- what a slot holds: a value; an object made here; an object of the caller's -/
inductive SV where
  | v (d : PyData)
  | m (o : MO)
  | p (o : MO)
  | f (g : Nat) (x : Str)
/-- what an expression yields: a value; an object just made; the object of a slot -/
inductive RV where
  | v (d : PyData)
  | m (o : MO)
  | b (i : Nat)
  | f (g : Nat) (x : Str)
  | mt (o : MO) (d : PyData)
abbrev Env := List (Option SV)
structure Xc where
  cls : Str
  args : List PyData
inductive Res (α : Type) where
  | ok (a : α)
  | exc (x : Xc) (ρ : Env)
  | bad
def Res.bnd {α β : Type} (r : Res α) (f : α → Res β) : Res β := match r with
  | .ok a => f a
  | .exc x ρ => .exc x ρ
  | .bad => .bad
@[simp] theorem bnd_ok {α β : Type} (a : α) (f : α → Res β) : (Res.ok a).bnd f = f a := rfl
@[simp] theorem bnd_bad {α β : Type} (f : α → Res β) : (Res.bad : Res α).bnd f = .bad := rfl
@[simp] theorem bnd_exc {α β : Type} (x : Xc) (ρ : Env) (f : α → Res β) : (Res.exc x ρ : Res α).bnd f = .exc x ρ := rfl
/-- an answer or nothing -/
def ofO {α : Type} : Option α → Res α
  | some a => .ok a
  | none => .bad
@[simp] theorem ofO_some {α : Type} (a : α) : ofO (some a) = .ok a := rfl
@[simp] theorem ofO_none {α : Type} : ofO (none : Option α) = .bad := rfl
theorem bnd_inv {α β : Type} {r : Res α} {f : α → Res β} {b : β} (h : r.bnd f = .ok b) : ∃ a, r = .ok a ∧ f a = .ok b := by
  cases r with
  | ok a => exact ⟨a, rfl, h⟩
  | exc x ρ => cases h
  | bad => cases h
theorem ofO_inv {α : Type} {o : Option α} {a : α} (h : ofO o = .ok a) : o = some a := by
  cases o with
  | none => cases h
  | some b => cases h; rfl

def lim : Nat := 16777216
def kD : L2.Key → PyData
  | .inl i => .int i
  | .inr x => .str x
def dK : PyData → Option L2.Key
  | .int i => some (.inl i)
  | .str x => some (.inr x)
  | _ => none
def MO.data : MO → PyData
  | .l xs => .list xs
  | .d ks => .dict (ks.map fun p => (kD p.1, p.2))
def slot (ρ : Env) (i : Nat) : Option SV := (ρ[i]?).join
def SV.mo : SV → Option MO
  | .v _ => none
  | .m o => some o
  | .p o => some o
  | .f _ _ => none
def SV.put : SV → MO → SV
  | .v d, _ => .v d
  | .m _, o => .m o
  | .p _, o => .p o
  | .f g x, _ => .f g x
/-- the object that slot i owns -/
def own (ρ : Env) (i : Nat) : Option MO := (slot ρ i).bind SV.mo
/-- slot i's object changed -/
def chg (ρ : Env) (i : Nat) (o : MO) : Env := ρ.set i ((slot ρ i).map fun s => s.put o)
/-- a result as a value to be kept -/
def keep : RV → Option PyData
  | .v d => some d
  | .m o => some o.data
  | .b _ => none
  | .f _ _ => none
  | .mt _ _ => none
/-- a result as a value to be read -/
def look (ρ : Env) : RV → Option PyData
  | .v d => some d
  | .m o => some o.data
  | .b i => (own ρ i).map MO.data
  | .f _ _ => none
  | .mt _ _ => none

/-! ### operations on values -/
inductive Bo where | add | sub | mul | fdiv | mod
inductive Co where | lt | le | gt | ge | eq | ne | isIn | notIn
inductive Ty where | int | bool | tuple | list | str | dict
inductive Pm where | len | tuple | list | all | any | sum | min | max | min2 | max2 | sorted | sortP | int | abs | repr | tupRev | dict
inductive Mt where | append | extend | pop0 | dget | dget2 | dpop2 | popAt

def binD : Bo → PyData → PyData → Option RV
  | .add, .int i, .int j => some (.v (.int (i + j)))
  | .add, .tuple xs, .tuple ys => if xs.length + ys.length ≤ lim then some (.v (.tuple (xs ++ ys))) else none
  | .add, .list xs, .list ys => if xs.length + ys.length ≤ lim then some (.m (.l (xs ++ ys))) else none
  | .add, .str x, .str y => if x.length + y.length ≤ lim then some (.v (.str (x ++ y))) else none
  | .sub, .int i, .int j => some (.v (.int (i - j)))
  | .mul, .int i, .int j => if (-(2 ^ 64) < j ∧ j < 2 ^ 64) ∨ (-(2 ^ 64) < i ∧ i < 2 ^ 64) then some (.v (.int (i * j))) else none
  | .mul, .tuple xs, .int k => if xs ≠ [] ∧ xs.length ≤ 1000 ∧ 0 ≤ k ∧ k ≤ 1000 then some (.v (.tuple (List.replicate k.toNat xs).flatten)) else none
  | .fdiv, .int i, .int j => if 0 < j ∧ j < 1073741824 then some (.v (.int (i / j))) else none
  | .mod, .int i, .int j => if 0 < j then some (.v (.int (i % j))) else none
  | _, _, _ => none
def augD : Bo → PyData → PyData → Option PyData
  | .add, .int i, .int j => some (.int (i + j))
  | .add, .tuple xs, .tuple ys => if xs.length + ys.length ≤ lim then some (.tuple (xs ++ ys)) else none
  | .sub, .int i, .int j => some (.int (i - j))
  | .fdiv, .int i, .int j => if 0 < j ∧ j < 1073741824 then some (.int (i / j)) else none
  | _, _, _ => none
def dcTp : PyData → PyData → Bool
  | .dict _, .tuple xs => (PyData.tuple xs).canLay0
  | _, _ => false
def eqOk (x y : PyData) : Bool := x.canLay0 && y.canLay0 && decide (min x.depth y.depth ≤ 150)
def flat : PyData → Bool
  | .none => true
  | .bool _ => true
  | .int _ => true
  | .str _ => true
  | _ => false
def seqOf : PyData → Option (List PyData)
  | .list xs => some xs
  | .tuple xs => some xs
  | _ => none
def lstOf : PyData → Option (List PyData)
  | .list xs => some xs
  | _ => none
def inD (x : PyData) (xs : List PyData) : Bool := xs.any fun z => PyData.eqv z x
def intsD : List PyData → Option (List Int)
  | [] => some []
  | .int i :: r => (intsD r).map (i :: ·)
  | _ :: _ => none
def cmpD : Co → PyData → PyData → Option Bool
  | .lt, .int i, .int j => some (decide (i < j))
  | .lt, .tuple xs, .tuple ys => (intsD xs).bind fun ns => (intsD ys).map fun ms => HT.lexLt ns ms
  | .le, .int i, .int j => some (decide (i ≤ j))
  | .gt, .int i, .int j => some (decide (j < i))
  | .ge, .int i, .int j => some (decide (j ≤ i))
  | .eq, x, y => if eqOk x y = true then some (PyData.eqv x y) else if dcTp x y = true then some false else none
  | .ne, x, y => if eqOk x y = true then some (!PyData.eqv x y) else none
  | .isIn, x, .dict ks => (dK x).map fun k => ks.any fun p => decide (dK p.1 = some k)
  | .notIn, x, .dict ks => (dK x).map fun k => !ks.any fun p => decide (dK p.1 = some k)
  | .isIn, x, .list ys => if (flat x && ys.all flat) = true then some (inD x ys) else none
  | .isIn, x, .tuple ys => if (flat x && ys.all flat) = true then some (inD x ys) else none
  | .notIn, x, .list ys => if (flat x && ys.all flat) = true then some (!inD x ys) else none
  | .notIn, x, .tuple ys => if (flat x && ys.all flat) = true then some (!inD x ys) else none
  | _, _, _ => none
def isiD : Ty → PyData → Bool
  | .int, .int _ => true
  | .int, .bool _ => true
  | .bool, .bool _ => true
  | .tuple, .tuple _ => true
  | .list, .list _ => true
  | .str, .str _ => true
  | .dict, .dict _ => true
  | _, _ => false
def cutG {α : Type} (xs : List α) (lo hi : Option Int) : List α := (xs.drop (HT.sIx xs.length 0 lo)).take (HT.sIx xs.length xs.length hi - HT.sIx xs.length 0 lo)
def slcD (x : PyData) (lo hi : Option Int) : Option RV := match x with
  | .tuple xs => some (.v (.tuple (cutG xs lo hi)))
  | .list xs => some (.m (.l (cutG xs lo hi)))
  | .str x => if x.length ≤ lim then some (.v (.str (L2.cutS x lo hi))) else none
  | _ => none
def idxD (x i : PyData) : Option PyData := match x, i with
  | .list xs, .int i => L2.atI xs i
  | .tuple xs, .int i => L2.atI xs i
  | .dict ks, i => (dK i).bind fun k => (ks.find? fun p => decide (dK p.1 = some k)).map (·.2)
  | _, _ => none
def boolsD : List PyData → Option (List Bool)
  | [] => some []
  | .bool i :: r => (boolsD r).map (i :: ·)
  | _ :: _ => none
def minL : List Int → Option Int
  | [] => none
  | x :: r => some (r.foldl min x)
def maxL : List Int → Option Int
  | [] => none
  | x :: r => some (r.foldl max x)
def insI (x : Int) : List Int → List Int
  | [] => [x]
  | y :: r => if x ≤ y then x :: y :: r else y :: insI x r
def sortI : List Int → List Int
  | [] => []
  | x :: r => insI x (sortI r)
/-- rising, each once -/
def insU (x : Int) : List Int → List Int
  | [] => [x]
  | y :: r => if x < y then x :: y :: r else if x = y then y :: r else y :: insU x r
def usort : List Int → List Int
  | [] => []
  | x :: r => insU x (usort r)
def pairsI : List PyData → Option (List (Int × Int))
  | [] => some []
  | .tuple [.int a, .int b] :: r => (pairsI r).map ((a, b) :: ·)
  | _ :: _ => none
def leP (p q : Int × Int) : Bool := decide (p.1 < q.1) || (decide (p.1 = q.1) && decide (p.2 ≤ q.2))
def insP (x : Int × Int) : List (Int × Int) → List (Int × Int)
  | [] => [x]
  | y :: r => if leP x y = true then x :: y :: r else y :: insP x r
def sortP : List (Int × Int) → List (Int × Int)
  | [] => []
  | x :: r => insP x (sortP r)
def okP (p : Int × Int) : Bool := decide (0 ≤ p.1) && decide (p.1 < 1152921504606846976) && decide (0 ≤ p.2) && decide (p.2 < 1152921504606846976)
def pdP (p : Int × Int) : PyData := .tuple [.int p.1, .int p.2]
/-- a dict's data as the object's own entries -/
def dictK : List (PyData × PyData) → Option (List (L2.Key × PyData))
  | [] => some []
  | p :: r => (dK p.1).bind fun k => (dictK r).map ((k, p.2) :: ·)
def primD : Pm → List PyData → Option RV
  | .len, [.list xs] => some (.v (.int xs.length))
  | .len, [.tuple xs] => some (.v (.int xs.length))
  | .len, [.dict ks] => some (.v (.int ks.length))
  | .len, [.str x] => if x.length ≤ lim then some (.v (.int x.length)) else none
  | .tuple, [.list xs] => some (.v (.tuple xs))
  | .tuple, [.tuple xs] => some (.v (.tuple xs))
  | .list, [.list xs] => some (.m (.l xs))
  | .list, [.tuple xs] => some (.m (.l xs))
  | .list, [.dict ks] => some (.m (.l (ks.map (·.1))))
  | .all, [.list xs] => (boolsD xs).map fun bs => .v (.bool (bs.all id))
  | .any, [.list xs] => (boolsD xs).map fun bs => .v (.bool (bs.any id))
  | .sum, [.list xs] => (intsD xs).map fun ns => .v (.int ns.sum)
  | .min, [.list xs] => ((intsD xs).bind minL).map fun n => .v (.int n)
  | .max, [.list xs] => ((intsD xs).bind maxL).map fun n => .v (.int n)
  | .min2, [.int i, .int j] => some (.v (.int (if j < i then j else i)))
  | .max2, [.int i, .int j] => some (.v (.int (if j > i then j else i)))
  | .sorted, [.list xs] => (intsD xs).map fun ns => .m (.l ((sortI ns).map .int))
  | .sortP, [.list xs] => (pairsI xs).bind fun ps => if (decide (ps.length < 64) && ps.all okP) = true then some (.m (.l ((sortP ps).map pdP))) else none
  | .sortP, [.tuple xs] => (pairsI xs).bind fun ps => if (decide (ps.length < 64) && ps.all okP) = true then some (.m (.l ((sortP ps).map pdP))) else none
  | .int, [.int i] => some (.v (.int i))
  | .int, [.bool b] => some (.v (.int (if b then 1 else 0)))
  | .abs, [.int i] => some (.v (.int (if i < 0 then -i else i)))
  | .repr, [x] => if x.showable = true ∧ x.shown.length ≤ lim ∧ x.hasDict = false ∧ x.depth ≤ 150 then some (.v (.str x.shown)) else none
  | .tupRev, [.tuple xs] => some (.v (.tuple xs.reverse))
  | .tupRev, [.list xs] => some (.v (.tuple xs.reverse))
  | .dict, [.dict ks] => (dictK ks).map fun r => .m (.d r)
  | _, _ => none
/-- a method of the object o: its answer, the object behind it -/
def metD : Mt → MO → List PyData → Option (PyData × MO)
  | .append, .l xs, [d] => if xs.length < lim then some (.none, .l (xs ++ [d])) else none
  | .extend, .l xs, [.list ys] => if xs.length + ys.length ≤ lim then some (.none, .l (xs ++ ys)) else none
  | .pop0, .l xs, [] => (xs.getLast?).map fun x => (x, .l xs.dropLast)
  | .popAt, .l xs, [.int i] => (L2.ixN xs.length i).bind fun j => if xs.length ≤ lim then (xs[j]?).map fun x => (x, .l (xs.eraseIdx j)) else none
  | .dget, .d ks, [x] => (dK x).map fun k => (((ks.find? fun p => decide (p.1 = k)).map (·.2)).getD .none, .d ks)
  | .dget2, .d ks, [x, z] => (dK x).map fun k => (((ks.find? fun p => decide (p.1 = k)).map (·.2)).getD z, .d ks)
  | .dpop2, .d ks, [x, z] => (dK x).map fun k => (((ks.find? fun p => decide (p.1 = k)).map (·.2)).getD z, .d (ks.filter fun p => !decide (p.1 = k)))
  | _, _, _ => none
/-- a list's item -/
def getL : MO → Int → Option PyData
  | .l xs, m => L2.atI xs m
  | .d _, _ => none
def metK : Mt → MO → Bool
  | .append, .l _ => true
  | .extend, .l _ => true
  | .pop0, .l _ => true
  | .dget, .d _ => true
  | .dget2, .d _ => true
  | .dpop2, .d _ => true
  | .popAt, .l _ => true
  | _, _ => false
def putP (ks : List (L2.Key × PyData)) (k : L2.Key) (v : PyData) : List (L2.Key × PyData) := if (ks.any fun p => decide (p.1 = k)) = true then ks.map fun p => if p.1 = k then (p.1, v) else p else ks ++ [(k, v)]
def setD (o : MO) (i v : PyData) : Option MO := match o, i with
  | .l xs, .int i => (L2.ixN xs.length i).map fun j => .l (xs.set j v)
  | .d ks, i => (dK i).bind fun k => if ks.length < lim then some (.d (putP ks k v)) else none
  | _, _ => none

/-! ### the text -/
/-- a target: a name's slot, or several -/
inductive Tg where
  | n (i : Nat)
  | t (is : List Nat)
mutual
inductive E where
  | var (i : Nat)
  | non
  | bl (b : Bool)
  | int (i : Int)
  | str (x : Str)
  | glo (x : Str) (d : PyData)
  | tup (es : Es)
  | lst (es : Es)
  | dic0
  | dic1 (k : Str) (e : E)
  | bin (op : Bo) (a b : E)
  | neg (a : E)
  | not (a : E)
  | and (a b : E)
  | or (a b : E)
  | ife (c a b : E)
  | cmp (op : Co) (a b : E)
  | chn (op op2 : Co) (a b c : E)
  | isn (a : E)
  | nis (a : E)
  | idx (a b : E)
  | slc (a : E) (lo hi : Oe)
  | rev (a : E)
  | call (f : Nat) (x : Str) (es : Es)
  | prm (p : Pm) (es : Es)
  | isi (a : E) (t : Ty)
  | met (m : Mt) (i : Nat) (es : Es)
  | comp (own : List Nat) (elt : E) (tg : Tg) (it : It) (cond : Oe)
  | compD (own : List Nat) (elt : E) (tg : Tg) (i : Nat) (cond : Oe)
  | comp2 (own own1 : List Nat) (elt : E) (tg : Tg) (it : It) (cond : Oe) (tg1 : Tg) (it1 : It) (cond1 : Oe)
  | lrg1 (a : E)
  | lrg2 (a b : E)
  | rpl (a b : E)
  | fn (g : Nat) (x : Str)
  | cal (i : Nat) (fs : List (Nat × Str)) (es : Es)
  | lset (a : E)
inductive Es where
  | nil
  | cons (e : E) (es : Es)
inductive Oe where
  | none
  | some (e : E)
inductive It where
  | e (a : E)
  | r1 (a : E)
  | r2 (a b : E)
  | r3 (a b c : E)
end
mutual
inductive S where
  | set (i : Nat) (e : E)
  | own (i : Nat) (e : E)
  | par (i j : Nat) (a b : E)
  | tpl (is : List Nat) (e : E)
  | sit (i : Nat) (a e : E)
  | swp (i : Nat) (a b c d : E)
  | aug (op : Bo) (i : Nat) (e : E)
  | exp (e : E)
  | iff (c : E) (a b : Ss)
  | for (tg : Tg) (it : It) (b : Ss)
  | whl (c : E) (b : Ss)
  | ret (e : E)
  | retN
  | brk
  | cnt
  | pss
  | rtt (i : Nat) (e : E)
  | rtm (i : Nat) (e : E)
  | tpo (i j : Nat) (e : E)
  | pr3 (i j l : Nat) (a b c : E)
  | sxn (i j : Nat) (a x y : E)
  | sga (i : Nat) (a e : E)
  | fz (i : Nat) (s : S)
inductive Ss where
  | nil
  | cons (s : S) (ss : Ss)
end

/-! ### its runs -/
/-- from the caller to the callee -/
def argIn (ρ : Env) : RV → Option SV
  | .v d => some (.v d)
  | .m o => some (.v o.data)
  | .b i => (own ρ i).map .p
  | .f g x => some (.f g x)
  | .mt _ _ => none
def argsIn (ρ : Env) : List RV → Option (List SV)
  | [] => some []
  | r :: rs => (argIn ρ r).bind fun s => (argsIn ρ rs).map (s :: ·)
def refs : List RV → List Nat
  | [] => []
  | .b i :: rs => i :: refs rs
  | _ :: rs => refs rs
/-- back from the callee -/
def backs (ρ : Env) : List Nat → List MO → Option Env
  | [], [] => some ρ
  | i :: is, o :: os => backs (chg ρ i o) is os
  | _, _ => none
def wipeE (ρ : Env) : List Nat → Env
  | [] => ρ
  | i :: is => (wipeE ρ is).set i none
/-- none of the slots holds an object -/
def noMo (ρ : Env) (is : List Nat) : Bool := is.all fun i => (own ρ i).isNone && decide (i < ρ.length)
def bindTg (t : Tg) (d : PyData) (ρ : Env) : Option Env := match t, d with
  | .n i, d => if noMo ρ [i] = true then some (ρ.set i (some (.v d))) else none
  | .t is, .tuple xs => if (noMo ρ is && decide (is.length = xs.length)) = true then some ((is.zip xs).foldl (fun r p => r.set p.1 (some (.v p.2))) ρ) else none
  | .t is, .list xs => if (noMo ρ is && decide (is.length = xs.length)) = true then some ((is.zip xs).foldl (fun r p => r.set p.1 (some (.v p.2))) ρ) else none
  | _, _ => none
/-- the block's own slots as they were ahead of it -/
def unwipe (ρ ρ' : Env) : List Nat → Env
  | [] => ρ'
  | i :: is => (unwipe ρ ρ' is).set i (ρ[i]?).join
abbrev EvB := Env → Res (Bool × Env)
abbrev EvV := Env → Res (PyData × Env)
/-- a comprehension's turns; the slots own are forgotten between them -/
def compR (own : List Nat) (bind : PyData → Env → Option Env) (cond : EvB) (elt : Env → Res (RV × Env)) : List PyData → Env → List PyData → Res (List PyData × Env)
  | [], ρ, acc => .ok (acc, ρ)
  | x :: xs, ρ, acc => (ofO (bind x ρ)).bnd fun ρ1 => (cond ρ1).bnd fun (b, ρ2) =>
    if b = true then (elt ρ2).bnd fun (r, ρ3) => (ofO (keep r)).bnd fun d => if acc.length < lim then compR own bind cond elt xs (wipeE ρ3 own) (acc ++ [d]) else .bad
    else compR own bind cond elt xs (wipeE ρ2 own) acc
/-- the outer clause of two: the inner one as a whole -/
def compQ (own : List Nat) (bind : PyData → Env → Option Env) (cond : EvB) (inner : Env → List PyData → Res (List PyData × Env)) : List PyData → Env → List PyData → Res (List PyData × Env)
  | [], ρ, acc => .ok (acc, ρ)
  | x :: xs, ρ, acc => (ofO (bind x ρ)).bnd fun ρ1 => (cond ρ1).bnd fun (b, ρ2) =>
    if b = true then (inner ρ2 acc).bnd fun (acc2, ρ3) => compQ own bind cond inner xs (wipeE ρ3 own) acc2
    else compQ own bind cond inner xs (wipeE ρ2 own) acc
inductive Fl where
  | nxt (ρ : Env)
  | ret (r : RV) (ρ : Env)
  | brk (ρ : Env)
  | cnt (ρ : Env)
abbrev EvS := Env → Res Fl
def forR (bind : PyData → Env → Option Env) (body : EvS) : List PyData → Env → Res Fl
  | [], ρ => .ok (.nxt ρ)
  | x :: xs, ρ => (ofO (bind x ρ)).bnd fun ρ1 => (body ρ1).bnd fun f => match f with
    | .nxt ρ2 => forR bind body xs ρ2
    | .cnt ρ2 => forR bind body xs ρ2
    | .brk ρ2 => .ok (.nxt ρ2)
    | .ret r ρ2 => .ok (.ret r ρ2)
/-- a bool's answer -/
def isB : RV → Option Bool
  | .v (.bool b) => some b
  | _ => none
def whileR (c : Env → Res (RV × Env)) (body : EvS) : Nat → Env → Res Fl
  | 0, _ => .bad
  | n + 1, ρ => (c ρ).bnd fun (x, ρ1) => (ofO (isB x)).bnd fun b => if b = true then (body ρ1).bnd fun f => match f with
      | .nxt ρ2 => whileR c body n ρ2
      | .cnt ρ2 => whileR c body n ρ2
      | .brk ρ2 => .ok (.nxt ρ2)
      | .ret r ρ2 => .ok (.ret r ρ2)
    else .ok (.nxt ρ1)
def fuel : Nat := 1000000
def rngL (lo : Int) (n : Nat) : List PyData := (List.range n).map fun k => .int (lo + (k : Nat))
def rngC (lo st : Int) (n : Nat) : List PyData := (List.range n).map fun k => .int (lo + (k : Nat) * st)
def smallI (i : Int) : Bool := decide (-(2 ^ 62) ≤ i) && decide (i < 2 ^ 62)
def isNonD : PyData → Bool
  | .none => true
  | _ => false
def asInt : PyData → Option Int
  | .int i => some i
  | _ => none
def asBool : PyData → Option Bool
  | .bool b => some b
  | _ => none
/-- a list just made -/
def newLD : RV → Option (List PyData)
  | .m (.l xs) => some xs
  | _ => none
/-- the turns of range(i, j, c) -/
def rng3N (i j c : Int) : Nat := (Builtin.Range.rangeSize i j c).toNat
def rng3B (i j c : Int) : Bool := decide (c ≠ 0) && decide (c.natAbs < 1073741824) && Builtin.Range.small i j c && decide (0 ≤ Builtin.Range.rangeSize i j c)

abbrev Fn := Nat → List SV → Res (RV × List MO)
section
variable (F : Fn)
mutual
def ev : E → Env → Res (RV × Env)
  | .var i, ρ => match slot ρ i with
    | some (.v d) => .ok (.v d, ρ)
    | some (.m _) => .ok (.b i, ρ)
    | some (.p _) => .ok (.b i, ρ)
    | some (.f g x) => .ok (.f g x, ρ)
    | none => .bad
  | .non, ρ => .ok (.v .none, ρ)
  | .bl b, ρ => .ok (.v (.bool b), ρ)
  | .int i, ρ => .ok (.v (.int i), ρ)
  | .str x, ρ => .ok (.v (.str x), ρ)
  | .glo _ d, ρ => .ok (.v d, ρ)
  | .tup es, ρ => (evK es ρ).bnd fun (ds, ρ1) => if ds.length ≤ lim then .ok (.v (.tuple ds), ρ1) else .bad
  | .lst es, ρ => (evK es ρ).bnd fun (ds, ρ1) => if ds.length ≤ lim then .ok (.m (.l ds), ρ1) else .bad
  | .dic0, ρ => .ok (.m (.d []), ρ)
  | .dic1 k e, ρ => (ev e ρ).bnd fun (r, ρ1) => (ofO (keep r)).bnd fun d => .ok (.m (.d [(.inr k, d)]), ρ1)
  | .bin op a b, ρ => (ev a ρ).bnd fun (x, ρ1) => (ev b ρ1).bnd fun (y, ρ2) => (ofO (look ρ2 x)).bnd fun x => (ofO (look ρ2 y)).bnd fun y => (ofO (binD op x y)).bnd fun r => .ok (r, ρ2)
  | .neg a, ρ => (ev a ρ).bnd fun (x, ρ1) => (ofO (keep x)).bnd fun x => (ofO (asInt x)).bnd fun i => .ok (.v (.int (-i)), ρ1)
  | .not a, ρ => (ev a ρ).bnd fun (x, ρ1) => (ofO (isB x)).bnd fun b => .ok (.v (.bool (!b)), ρ1)
  | .and a b, ρ => (ev a ρ).bnd fun (x, ρ1) => (ofO (isB x)).bnd fun k => if k = true then (ev b ρ1).bnd fun (y, ρ2) => (ofO (isB y)).bnd fun k2 => .ok (.v (.bool k2), ρ2) else .ok (.v (.bool false), ρ1)
  | .or a b, ρ => (ev a ρ).bnd fun (x, ρ1) => (ofO (isB x)).bnd fun k => if k = true then .ok (.v (.bool true), ρ1) else (ev b ρ1).bnd fun (y, ρ2) => (ofO (isB y)).bnd fun k2 => .ok (.v (.bool k2), ρ2)
  | .ife c a b, ρ => (ev c ρ).bnd fun (x, ρ1) => (ofO (isB x)).bnd fun k => if k = true then ev a ρ1 else ev b ρ1
  | .cmp op a b, ρ => (ev a ρ).bnd fun (x, ρ1) => (ev b ρ1).bnd fun (y, ρ2) => (ofO (look ρ2 x)).bnd fun x => (ofO (look ρ2 y)).bnd fun y => (ofO (cmpD op x y)).bnd fun k => .ok (.v (.bool k), ρ2)
  | .chn op op2 a b c, ρ => (ev a ρ).bnd fun (x, ρ1) => (ev b ρ1).bnd fun (y, ρ2) => (ofO (keep x)).bnd fun x => (ofO (keep y)).bnd fun y => (ofO (cmpD op x y)).bnd fun k =>
      if k = true then (ev c ρ2).bnd fun (z, ρ3) => (ofO (keep z)).bnd fun z => (ofO (cmpD op2 y z)).bnd fun k2 => .ok (.v (.bool k2), ρ3) else .ok (.v (.bool false), ρ2)
  | .isn a, ρ => (ev a ρ).bnd fun (x, ρ1) => (ofO (keep x)).bnd fun x => .ok (.v (.bool (isNonD x)), ρ1)
  | .nis a, ρ => (ev a ρ).bnd fun (x, ρ1) => (ofO (keep x)).bnd fun x => .ok (.v (.bool (!isNonD x)), ρ1)
  | .idx a b, ρ => (ev a ρ).bnd fun (x, ρ1) => (ev b ρ1).bnd fun (y, ρ2) => (ofO (look ρ2 x)).bnd fun x => (ofO (keep y)).bnd fun y => (ofO (idxD x y)).bnd fun d => .ok (.v d, ρ2)
  | .slc a lo hi, ρ => (ev a ρ).bnd fun (x, ρ1) => (evO lo ρ1).bnd fun (l, ρ2) => (evO hi ρ2).bnd fun (u, ρ3) => (ofO (look ρ3 x)).bnd fun x => (ofO (slcD x l u)).bnd fun r => .ok (r, ρ3)
  | .rev a, ρ => (ev a ρ).bnd fun (x, ρ1) => (ofO (look ρ1 x)).bnd fun x => match x with
    | .list xs => .ok (.m (.l xs.reverse), ρ1)
    | .tuple xs => .ok (.v (.tuple xs.reverse), ρ1)
    | _ => .bad
  | .call f _ es, ρ => (evA es ρ).bnd fun (rs, ρ1) => if (refs rs).Nodup then (ofO (argsIn ρ1 rs)).bnd fun ss => match F f ss with
      | .ok (r, os) => (ofO (backs ρ1 (refs rs) os)).bnd fun ρ2 => match r with
        | .b _ => .bad
        | r => .ok (r, ρ2)
      | .exc x _ => if refs rs = [] then .exc x ρ1 else .bad
      | .bad => .bad
    else .bad
  | .prm p es, ρ => (evA es ρ).bnd fun (rs, ρ1) => (ofO (rs.mapM (look ρ1))).bnd fun ds => (ofO (primD p ds)).bnd fun r => .ok (r, ρ1)
  | .isi a t, ρ => (ev a ρ).bnd fun (x, ρ1) => (ofO (look ρ1 x)).bnd fun x => .ok (.v (.bool (isiD t x)), ρ1)
  | .met m i es, ρ => (ofO (own ρ i)).bnd fun o0 => if metK m o0 = true then (evK es ρ).bnd fun (ds, ρ1) => (ofO (own ρ1 i)).bnd fun o => (ofO (metD m o ds)).bnd fun (d, o2) => .ok (.v d, chg ρ1 i o2) else .bad
  | .comp ow elt tg it c, ρ => (evI it ρ).bnd fun (xs, ρ1) => if noMo ρ1 ow = true then
      (compR ow (bindTg tg) (evC c) (ev elt) xs (wipeE ρ1 ow) []).bnd fun (ds, ρ2) => .ok (.m (.l ds), unwipe ρ1 ρ2 ow) else .bad
  | .compD ow elt tg i c, ρ => (ofO (own ρ i)).bnd fun o => match o with
    | .d ks => if (noMo ρ ow && decide (i ∉ ow)) = true then (compR ow (bindTg tg) (evC c) (ev elt) (ks.map fun p => kD p.1) (wipeE (ρ.set i none) ow) []).bnd fun (ds, ρ2) =>
        .ok (.m (.l ds), (unwipe ρ ρ2 ow).set i (ρ[i]?).join) else .bad
    | _ => .bad
  | .comp2 ow ow1 elt tg it c tg1 it1 c1, ρ => (evI it ρ).bnd fun (xs, ρ1) => if noMo ρ1 ow = true then
      (compQ ow (bindTg tg) (evC c) (fun ρ3 acc => (evI it1 ρ3).bnd fun (ys, ρ4) => if noMo ρ4 ow1 = true then compR ow1 (bindTg tg1) (evC c1) (ev elt) ys (wipeE ρ4 ow1) acc else .bad) xs (wipeE ρ1 ow) []).bnd fun (ds, ρ2) => .ok (.m (.l ds), unwipe ρ1 ρ2 ow) else .bad
  | .lrg1 a, ρ => (ev a ρ).bnd fun (r, ρ1) => (ofO (keep r)).bnd fun d => (ofO (asInt d)).bnd fun j => if (decide (0 ≤ j) && decide (j ≤ 16777216)) = true then .ok (.m (.l (rngL 0 j.toNat)), ρ1) else .bad
  | .lrg2 a b, ρ => (ev a ρ).bnd fun (r, ρ1) => (ev b ρ1).bnd fun (q, ρ2) => (ofO (keep r)).bnd fun d => (ofO (asInt d)).bnd fun i => (ofO (keep q)).bnd fun d => (ofO (asInt d)).bnd fun j =>
      if ((decide (0 ≤ i) && decide (i ≤ 16777216)) && (decide (0 ≤ j) && decide (j ≤ 16777216))) = true then .ok (.m (.l (rngL i (j - i).toNat)), ρ2) else .bad
  | .rpl a b, ρ => (ev a ρ).bnd fun (x, ρ1) => (ev b ρ1).bnd fun (y, ρ2) => (ofO (newLD x)).bnd fun xs => (ofO (keep y)).bnd fun d => (ofO (asInt d)).bnd fun k =>
      if (decide (xs.length ≤ 1000) && (decide (0 ≤ k) && decide (k ≤ 1000))) = true then .ok (.m (.l (List.replicate k.toNat xs).flatten), ρ2) else .bad
  | .fn g x, ρ => .ok (.f g x, ρ)
  | .cal i fs es, ρ => match slot ρ i with
    | some (.f g x) => if (g, x) ∈ fs then (evA es ρ).bnd fun (rs, ρ1) => if (refs rs).Nodup then (ofO (argsIn ρ1 rs)).bnd fun ss => match F g ss with
      | .ok (r, os) => (ofO (backs ρ1 (refs rs) os)).bnd fun ρ2 => match r with
        | .b _ => .bad
        | r => .ok (r, ρ2)
      | .exc x _ => if refs rs = [] then .exc x ρ1 else .bad
      | .bad => .bad
      else .bad else .bad
    | _ => .bad
  | .lset a, ρ => (ev a ρ).bnd fun (x, ρ1) => (ofO (keep x)).bnd fun x => (ofO (lstOf x)).bnd fun xs => (ofO (intsD xs)).bnd fun ns => if ns.length ≤ 4000 then .ok (.v (.int (usort ns).length), ρ1) else .bad
/-- values to be kept -/
def evK : Es → Env → Res (List PyData × Env)
  | .nil, ρ => .ok ([], ρ)
  | .cons e es, ρ => (ev e ρ).bnd fun (r, ρ1) => (ofO (keep r)).bnd fun d => (evK es ρ1).bnd fun (ds, ρ2) => .ok (d :: ds, ρ2)
/-- arguments -/
def evA : Es → Env → Res (List RV × Env)
  | .nil, ρ => .ok ([], ρ)
  | .cons e es, ρ => (ev e ρ).bnd fun (r, ρ1) => (evA es ρ1).bnd fun (rs, ρ2) => .ok (r :: rs, ρ2)
/-- a slice's part -/
def evO : Oe → Env → Res (Option Int × Env)
  | .none, ρ => .ok (none, ρ)
  | .some e, ρ => (ev e ρ).bnd fun (r, ρ1) => (ofO (keep r)).bnd fun d => (ofO (asInt d)).bnd fun i => .ok (some i, ρ1)
/-- a clause's test -/
def evC : Oe → Env → Res (Bool × Env)
  | .none, ρ => .ok (true, ρ)
  | .some e, ρ => (ev e ρ).bnd fun (r, ρ1) => (ofO (isB r)).bnd fun b => .ok (b, ρ1)
/-- what is walked -/
def evI : It → Env → Res (List PyData × Env)
  | .e a, ρ => (ev a ρ).bnd fun (r, ρ1) => (ofO (keep r)).bnd fun d => (ofO (seqOf d)).bnd fun xs => .ok (xs, ρ1)
  | .r1 a, ρ => (ev a ρ).bnd fun (r, ρ1) => (ofO (keep r)).bnd fun d => (ofO (asInt d)).bnd fun j => if smallI j = true then .ok (rngL 0 j.toNat, ρ1) else .bad
  | .r2 a b, ρ => (ev a ρ).bnd fun (r, ρ1) => (ev b ρ1).bnd fun (q, ρ2) => (ofO (keep r)).bnd fun d => (ofO (asInt d)).bnd fun i => (ofO (keep q)).bnd fun d => (ofO (asInt d)).bnd fun j =>
      if (smallI i && smallI j) = true then .ok (rngL i (j - i).toNat, ρ2) else .bad
  | .r3 a b c, ρ => (ev a ρ).bnd fun (r, ρ1) => (ev b ρ1).bnd fun (q, ρ2) => (ev c ρ2).bnd fun (z, ρ3) => (ofO (keep r)).bnd fun d => (ofO (asInt d)).bnd fun i => (ofO (keep q)).bnd fun d => (ofO (asInt d)).bnd fun j =>
      (ofO (keep z)).bnd fun d => (ofO (asInt d)).bnd fun c => if rng3B i j c = true then .ok (rngC i c (rng3N i j c), ρ3) else .bad
end
mutual
def evS : S → Env → Res Fl
  | .set i e, ρ => (ev F e ρ).bnd fun (r, ρ1) => (ofO (keep r)).bnd fun d => .ok (.nxt (ρ1.set i (some (.v d))))
  | .own i e, ρ => (ev F e ρ).bnd fun (r, ρ1) => match r with
    | .m o => .ok (.nxt (ρ1.set i (some (.m o))))
    | _ => .bad
  | .par i j a b, ρ => (ev F a ρ).bnd fun (x, ρ1) => (ev F b ρ1).bnd fun (y, ρ2) => (ofO (keep x)).bnd fun x => (ofO (keep y)).bnd fun y => .ok (.nxt ((ρ2.set i (some (.v x))).set j (some (.v y))))
  | .tpl is e, ρ => (ev F e ρ).bnd fun (r, ρ1) => (ofO (keep r)).bnd fun d => (ofO (bindTg (.t is) d ρ1)).bnd fun ρ2 => .ok (.nxt ρ2)
  | .sit i a e, ρ => (ev F e ρ).bnd fun (r, ρ1) => (ofO (keep r)).bnd fun d => (ofO (own ρ1 i)).bnd fun _ => (ev F a ρ1).bnd fun (q, ρ2) => (ofO (keep q)).bnd fun k => (ofO (own ρ2 i)).bnd fun o => (ofO (setD o k d)).bnd fun o2 => .ok (.nxt (chg ρ2 i o2))
  | .swp i a b c d, ρ => (ev F (.idx (.var i) c) ρ).bnd fun (x, ρ1) => (ofO (keep x)).bnd fun x => (ev F (.idx (.var i) d) ρ1).bnd fun (y, ρ2) => (ofO (keep y)).bnd fun y =>
      (ofO (own ρ2 i)).bnd fun _ => (ev F a ρ2).bnd fun (q, ρ3) => (ofO (keep q)).bnd fun k => (ofO (own ρ3 i)).bnd fun o => (ofO (setD o k x)).bnd fun o2 =>
      (ev F b (chg ρ3 i o2)).bnd fun (q, ρ4) => (ofO (keep q)).bnd fun k => (ofO (own ρ4 i)).bnd fun o => (ofO (setD o k y)).bnd fun o2 => .ok (.nxt (chg ρ4 i o2))
  | .aug op i e, ρ => (ofO (slot ρ i)).bnd fun s => match s with
    | .v x => (ev F e ρ).bnd fun (r, ρ1) => (ofO (keep r)).bnd fun y => (ofO (augD op x y)).bnd fun z => .ok (.nxt (ρ1.set i (some (.v z))))
    | _ => .bad
  | .exp e, ρ => (ev F e ρ).bnd fun (_, ρ1) => .ok (.nxt ρ1)
  | .iff c a b, ρ => (ev F c ρ).bnd fun (r, ρ1) => (ofO (isB r)).bnd fun k => if k = true then evSs a ρ1 else evSs b ρ1
  | .for tg it b, ρ => (evI F it ρ).bnd fun (xs, ρ1) => forR (bindTg tg) (evSs b) xs ρ1
  | .whl c b, ρ => whileR (ev F c) (evSs b) fuel ρ
  | .ret e, ρ => (ev F e ρ).bnd fun (r, ρ1) => match r with
    | .v d => .ok (.ret (.v d) ρ1)
    | .m o => .ok (.ret (.m o) ρ1)
    | .b i => match slot ρ1 i with
      | some (.m o) => .ok (.ret (.m o) (ρ1.set i none))
      | _ => .bad
    | _ => .bad
  | .retN, ρ => .ok (.ret (.v .none) ρ)
  | .brk, ρ => .ok (.brk ρ)
  | .cnt, ρ => .ok (.cnt ρ)
  | .pss, ρ => .ok (.nxt ρ)
  | .rtt i e, ρ => match slot ρ i with
    | some (.m _) => (ev F e ρ).bnd fun (r, ρ1) => (ofO (keep r)).bnd fun d => match slot ρ1 i with
      | some (.m o) => .ok (.ret (.v (.tuple [o.data, d])) (ρ1.set i none))
      | _ => .bad
    | _ => .bad
  | .rtm i e, ρ => match slot ρ i with
    | some (.m _) => (ev F e ρ).bnd fun (r, ρ1) => (ofO (keep r)).bnd fun d => match slot ρ1 i with
      | some (.m o) => .ok (.ret (.mt o d) (ρ1.set i none))
      | _ => .bad
    | _ => .bad
  | .tpo i j e, ρ => (ev F e ρ).bnd fun (r, ρ1) => match r with
    | .mt o d => if i = j then .bad else .ok (.nxt ((ρ1.set i (some (.m o))).set j (some (.v d))))
    | _ => .bad
  | .pr3 i j l a b c, ρ => (ev F a ρ).bnd fun (x, ρ1) => (ev F b ρ1).bnd fun (y, ρ2) => (ev F c ρ2).bnd fun (z, ρ3) => (ofO (keep x)).bnd fun x => (ofO (keep y)).bnd fun y => (ofO (keep z)).bnd fun z => .ok (.nxt (((ρ3.set i (some (.v x))).set j (some (.v y))).set l (some (.v z))))
  | .sxn i j a x y, ρ => (ev F x ρ).bnd fun (rx, ρ1) => (ofO (keep rx)).bnd fun dx => (ev F y ρ1).bnd fun (ry, ρ2) => (ofO (keep ry)).bnd fun dy =>
      (ofO (own ρ2 i)).bnd fun _ => (ev F a ρ2).bnd fun (q, ρ3) => (ofO (keep q)).bnd fun k => (ofO (own ρ3 i)).bnd fun o => (ofO (setD o k dx)).bnd fun o2 =>
      .ok (.nxt ((chg ρ3 i o2).set j (some (.v dy))))
  | .sga i a e, ρ => (ofO (own ρ i)).bnd fun _ => (ev F a ρ).bnd fun (q, ρ1) => (ofO (keep q)).bnd fun k => (ofO (asInt k)).bnd fun m => (ofO (own ρ1 i)).bnd fun o1 => (ofO (getL o1 m)).bnd fun old => (ofO (asInt old)).bnd fun n =>
      (ev F e ρ1).bnd fun (r, ρ2) => (ofO (keep r)).bnd fun d => (ofO (asInt d)).bnd fun z => (ofO (own ρ2 i)).bnd fun o => (ofO (setD o (.int m) (.int (n + z)))).bnd fun o2 => .ok (.nxt (chg ρ2 i o2))
  | .fz i s, ρ => match slot ρ i with
    | some (.m o) => evS s (ρ.set i (some (.v o.data)))
    | _ => .bad
def evSs : Ss → Env → Res Fl
  | .nil, ρ => .ok (.nxt ρ)
  | .cons s ss, ρ => (evS s ρ).bnd fun f => match f with
    | .nxt ρ1 => evSs ss ρ1
    | f => .ok f
end
end
structure FDef where
  np : Nat
  ns : Nat
  body : Ss
/-- the caller's objects behind the run, from the parameters' slots -/
def outs : List SV → Env → Option (List MO)
  | [], _ => some []
  | .p _ :: ss, some (.p o) :: ρ => (outs ss ρ).map (o :: ·)
  | .p _ :: _, _ => none
  | _ :: ss, _ :: ρ => outs ss ρ
  | _ :: _, [] => none
def runD (F : Fn) (d : FDef) (ss : List SV) : Res (RV × List MO) :=
  if ss.length = d.np then match evSs F d.body (ss.map some ++ List.replicate (d.ns - d.np) none) with
    | .ok (.ret r ρ) => (ofO (outs ss ρ)).bnd fun os => .ok (r, os)
    | .ok (.nxt ρ) => (ofO (outs ss ρ)).bnd fun os => .ok (.v .none, os)
    | .ok _ => .bad
    | .exc x _ => .exc x []
    | .bad => .bad
  else .bad
/-- the text's functions with n calls one in another -/
def run (T : Nat → Option FDef) : Nat → Fn
  | 0, _, _ => .bad
  | n + 1, f, ss => match T f with
    | some d => runD (run T n) d ss
    | none => .bad
end Rf

set_option Elab.async false
set_option linter.all false
set_option maxRecDepth 100000
set_option maxHeartbeats 4000000
/-! Rf2: what stands for what. -/
namespace Rf
open PySem PySem.Spec L2

/-- a list of the module's own, or one that nobody changes -/
def KL (K : PySem.W.Frag) (a : Addr) (xs : List V) : Prop := ∃ (its : List Value) (n : Nat), K.lookup a = some { cls := .type "list", data := .seq its.toArray n } ∧ xs.length ≤ sizeLine ∧ Vals xs its
def LsK (K : PySem.W.Frag) (H : Hp) (a : Addr) (xs : List V) : Prop := Rd H a (.lst xs) ∨ KL K a xs
theorem LsK.sq {K : PySem.W.Frag} {H : Hp} {a : Addr} {xs : List V} (h : LsK K H a xs) : SqL K H a xs := by
  rcases h with h | ⟨its, n, hk, hz, r⟩
  · exact .inl h
  · exact .inr ⟨_, its.toArray, n, hk, rfl, rfl, rfl, by rw [List.size_toArray, ← r.length]; exact hz, by simpa using r⟩
theorem LsK.obj {X : Cx} {pins : List (Addr × Obj)} {σ : St} {H : Hp} {s : Shared} {a : Addr} {xs : List V} (I : Inv X pins σ H s) (h : LsK X.K H a xs) : xs.length ≤ sizeLine ∧ ∃ (its : List Value) (n : Nat), Vals xs its ∧ s.heap.get? a = some { cls := .type "list", data := .seq its.toArray n } := by
  rcases h with h | ⟨its, n, hk, hz, r⟩
  · obtain ⟨z, its, n, r, e⟩ := h.ok I.hok
    exact ⟨z, its, n, r, e⟩
  · exact ⟨hz, its, n, r, I.kIn _ _ hk⟩
mutual
/-- the value d stands at V; lists and dicts of it are none of those at L -/
inductive Rep (K : PySem.W.Frag) (L : List Addr) (H : Hp) : PyData → V → Prop where
  | non : Rep K L H .none .non
  | bl (b : Bool) : Rep K L H (.bool b) (.bl b)
  | int (i : Int) : Rep K L H (.int i) (.int i)
  | str (x : Str) : Rep K L H (.str x) (.str x)
  | lst {a : Addr} {xs : List V} {ds : List PyData} (n : a ∉ L) (h : Rd H a (.lst xs)) (r : RepAll K L H ds xs) : Rep K L H (.list ds) (.ref a)
  | lstK {a : Addr} {xs : List V} {ds : List PyData} (h : KL K a xs) (r : RepAll K L H ds xs) : Rep K L H (.list ds) (.ref a)
  | tup {a : Addr} {xs : List V} {ds : List PyData} (h : SqT K H a xs) (r : RepAll K L H ds xs) : Rep K L H (.tuple ds) (.ref a)
  | dct {a : Addr} {kvs : List (Key × V)} {ps : List (PyData × PyData)} (n : a ∉ L) (h : H a = some (.dK kvs)) (r : RepKs K L H ps kvs) : Rep K L H (.dict ps) (.ref a)
inductive RepAll (K : PySem.W.Frag) (L : List Addr) (H : Hp) : List PyData → List V → Prop where
  | nil : RepAll K L H [] []
  | cons {d : PyData} {ds : List PyData} {v : V} {vs : List V} (r : Rep K L H d v) (rs : RepAll K L H ds vs) : RepAll K L H (d :: ds) (v :: vs)
inductive RepKs (K : PySem.W.Frag) (L : List Addr) (H : Hp) : List (PyData × PyData) → List (Key × V) → Prop where
  | nil : RepKs K L H [] []
  | cons {k : Key} {d : PyData} {ps : List (PyData × PyData)} {v : V} {kvs : List (Key × V)} (r : Rep K L H d v) (rs : RepKs K L H ps kvs) : RepKs K L H ((kD k, d) :: ps) ((k, v) :: kvs)
end

def isT : HO → Prop
  | .tup _ => True
  | .frz _ (.tup _) => True
  | _ => False
/-- what is kept from H to H' where only the objects O may change -/
structure Ext (O : List Addr) (H H' : Hp) : Prop where
  keep : ∀ a o, H a = some o → (a ∉ O ∨ isT o) → H' a = some o
  dom : ∀ a, H' a = none → H a = none
theorem Ext.refl (O : List Addr) (H : Hp) : Ext O H H := ⟨fun _ _ h _ => h, fun _ h => h⟩
theorem Ext.trans {O : List Addr} {H H1 H2 : Hp} (e : Ext O H H1) (f : Ext O H1 H2) : Ext O H H2 :=
  ⟨fun a o h n => f.keep a o (e.keep a o h n) n, fun a h => e.dom a (f.dom a h)⟩
theorem Ext.mono {O O' : List Addr} {H H' : Hp} (e : Ext O H H') (s : ∀ a, a ∈ O → a ∈ O') : Ext O' H H' :=
  ⟨fun a o h n => e.keep a o h (n.imp (fun q z => q (s a z)) id), e.dom⟩
theorem Ext.new {O : List Addr} {H : Hp} {p : Addr} (o : HO) (h : H p = none) : Ext O H (upd H p o) := by
  refine ⟨fun a u e _ => ?_, fun a e => ?_⟩
  · rw [upd_ne (ne_of_none e h)]; exact e
  · by_cases q : a = p
    · subst q; exact h
    · rw [upd_ne q] at e; exact e
theorem Ext.wr {O : List Addr} {H : Hp} {p : Addr} {o u : HO} (hO : p ∈ O) (h : H p = some u) (hu : ¬ isT u) : Ext O H (upd H p o) := by
  refine ⟨fun a v e n => ?_, fun a e => ?_⟩
  · by_cases q : a = p
    · subst q
      rcases n with n | n
      · exact absurd hO n
      · rw [h] at e; cases e; exact absurd n hu
    · rw [upd_ne q]; exact e
  · by_cases q : a = p
    · subst q; rw [upd_same] at e; cases e
    · rw [upd_ne q] at e; exact e

theorem Rd.ext {O : List Addr} {H H' : Hp} {a : Addr} {u : HO} (e : Ext O H H') (n : a ∉ O) (r : Rd H a u) : Rd H' a u := by
  rcases r with r | ⟨o, r⟩
  · exact .inl (e.keep _ _ r (.inl n))
  · exact .inr ⟨o, e.keep _ _ r (.inl n)⟩

section
variable {K : PySem.W.Frag} {L L' O : List Addr} {H H' : Hp}
theorem SqT.ext {a : Addr} {xs : List V} (e : Ext O H H') (h : SqT K H a xs) : SqT K H' a xs := by
  rcases h with (h | ⟨o, h⟩) | h
  · exact .inl (.inl (e.keep _ _ h (.inr trivial)))
  · exact .inl (.inr ⟨o, e.keep _ _ h (.inr trivial)⟩)
  · exact .inr h
mutual
theorem Rep.ext (e : Ext O H H') (s : ∀ a, a ∈ O → a ∈ L) : ∀ {d : PyData} {v : V}, Rep K L H d v → Rep K L H' d v
  | _, _, .non => .non
  | _, _, .bl b => .bl b
  | _, _, .int i => .int i
  | _, _, .str x => .str x
  | _, _, .lst n h r => .lst n (Rd.ext e (fun q => n (s _ q)) h) (RepAll.ext e s r)
  | _, _, .lstK h r => .lstK h (RepAll.ext e s r)
  | _, _, .tup h r => .tup (SqT.ext e h) (RepAll.ext e s r)
  | _, _, .dct n h r => .dct n (e.keep _ _ h (.inl fun q => n (s _ q))) (RepKs.ext e s r)
theorem RepAll.ext (e : Ext O H H') (s : ∀ a, a ∈ O → a ∈ L) : ∀ {ds : List PyData} {vs : List V}, RepAll K L H ds vs → RepAll K L H' ds vs
  | _, _, .nil => .nil
  | _, _, .cons r rs => .cons (Rep.ext e s r) (RepAll.ext e s rs)
theorem RepKs.ext (e : Ext O H H') (s : ∀ a, a ∈ O → a ∈ L) : ∀ {ds : List (PyData × PyData)} {vs : List (Key × V)}, RepKs K L H ds vs → RepKs K L H' ds vs
  | _, _, .nil => .nil
  | _, _, .cons r rs => .cons (Rep.ext e s r) (RepKs.ext e s rs)
end
mutual
theorem Rep.sub (s : ∀ a, a ∈ L' → a ∈ L) : ∀ {d : PyData} {v : V}, Rep K L H d v → Rep K L' H d v
  | _, _, .non => .non
  | _, _, .bl b => .bl b
  | _, _, .int i => .int i
  | _, _, .str x => .str x
  | _, _, .lst n h r => .lst (fun q => n (s _ q)) h (RepAll.sub s r)
  | _, _, .lstK h r => .lstK h (RepAll.sub s r)
  | _, _, .tup h r => .tup h (RepAll.sub s r)
  | _, _, .dct n h r => .dct (fun q => n (s _ q)) h (RepKs.sub s r)
theorem RepAll.sub (s : ∀ a, a ∈ L' → a ∈ L) : ∀ {ds : List PyData} {vs : List V}, RepAll K L H ds vs → RepAll K L' H ds vs
  | _, _, .nil => .nil
  | _, _, .cons r rs => .cons (Rep.sub s r) (RepAll.sub s rs)
theorem RepKs.sub (s : ∀ a, a ∈ L' → a ∈ L) : ∀ {ds : List (PyData × PyData)} {vs : List (Key × V)}, RepKs K L H ds vs → RepKs K L' H ds vs
  | _, _, .nil => .nil
  | _, _, .cons r rs => .cons (Rep.sub s r) (RepKs.sub s rs)
end
theorem Rd.ne {a p : Addr} {u : HO} (r : Rd H a u) (h : H p = none) : a ≠ p := by
  rcases r with r | ⟨o, r⟩
  · exact ne_of_none r h
  · exact ne_of_none r h
mutual
/-- an address that is free, or new, is none of its -/
theorem Rep.add (h : ∀ a, a ∈ L' → a ∈ L ∨ H a = none) : ∀ {d : PyData} {v : V}, Rep K L H d v → Rep K L' H d v
  | _, _, .non => .non
  | _, _, .bl b => .bl b
  | _, _, .int i => .int i
  | _, _, .str x => .str x
  | _, _, .lst n q r => .lst (fun z => (h _ z).elim n fun y => Rd.ne q y rfl) q (RepAll.add h r)
  | _, _, .lstK q r => .lstK q (RepAll.add h r)
  | _, _, .tup q r => .tup q (RepAll.add h r)
  | _, _, .dct n q r => .dct (fun z => (h _ z).elim n fun y => ne_of_none q y rfl) q (RepKs.add h r)
theorem RepAll.add (h : ∀ a, a ∈ L' → a ∈ L ∨ H a = none) : ∀ {ds : List PyData} {vs : List V}, RepAll K L H ds vs → RepAll K L' H ds vs
  | _, _, .nil => .nil
  | _, _, .cons r rs => .cons (Rep.add h r) (RepAll.add h rs)
theorem RepKs.add (h : ∀ a, a ∈ L' → a ∈ L ∨ H a = none) : ∀ {ds : List (PyData × PyData)} {vs : List (Key × V)}, RepKs K L H ds vs → RepKs K L' H ds vs
  | _, _, .nil => .nil
  | _, _, .cons r rs => .cons (Rep.add h r) (RepKs.add h rs)
end
theorem RepAll.length : ∀ {ds : List PyData} {vs : List V}, RepAll K L H ds vs → ds.length = vs.length
  | _, _, .nil => rfl
  | _, _, .cons _ rs => congrArg (· + 1) (RepAll.length rs)
theorem RepAll.get : ∀ {ds : List PyData} {vs : List V}, RepAll K L H ds vs → ∀ {i : Nat} {d : PyData}, ds[i]? = some d → ∃ v, vs[i]? = some v ∧ Rep K L H d v
  | _, _, .nil, _, _, h => by simp at h
  | _, _, .cons r rs, 0, _, h => by simp at h; subst h; exact ⟨_, rfl, r⟩
  | _, _, .cons r rs, i + 1, d, h => by
    obtain ⟨v, h1, h2⟩ := RepAll.get rs (i := i) (d := d) (by simpa using h)
    exact ⟨v, by simpa using h1, h2⟩
theorem RepAll.get' : ∀ {ds : List PyData} {vs : List V}, RepAll K L H ds vs → ∀ {i : Nat} {v : V}, vs[i]? = some v → ∃ d, ds[i]? = some d ∧ Rep K L H d v
  | _, _, .nil, _, _, h => by simp at h
  | _, _, .cons r rs, 0, _, h => by simp at h; subst h; exact ⟨_, rfl, r⟩
  | _, _, .cons r rs, i + 1, d, h => by
    obtain ⟨v, h1, h2⟩ := RepAll.get' rs (i := i) (v := d) (by simpa using h)
    exact ⟨v, by simpa using h1, h2⟩
theorem RepAll.append : ∀ {ds : List PyData} {vs : List V} {es : List PyData} {ws : List V}, RepAll K L H ds vs → RepAll K L H es ws → RepAll K L H (ds ++ es) (vs ++ ws)
  | _, _, _, _, .nil, s => s
  | _, _, _, _, .cons r rs, s => .cons r (RepAll.append rs s)
theorem RepAll.take : ∀ {ds : List PyData} {vs : List V} (n : Nat), RepAll K L H ds vs → RepAll K L H (ds.take n) (vs.take n)
  | _, _, 0, _ => .nil
  | _, _, _ + 1, .nil => .nil
  | _, _, n + 1, .cons r rs => .cons r (RepAll.take n rs)
theorem RepAll.drop : ∀ {ds : List PyData} {vs : List V} (n : Nat), RepAll K L H ds vs → RepAll K L H (ds.drop n) (vs.drop n)
  | _, _, 0, r => r
  | _, _, _ + 1, .nil => .nil
  | _, _, n + 1, .cons _ rs => RepAll.drop n rs
theorem RepAll.set {d : PyData} {v : V} (r : Rep K L H d v) : ∀ {ds : List PyData} {vs : List V} (i : Nat), RepAll K L H ds vs → RepAll K L H (ds.set i d) (vs.set i v)
  | _, _, _, .nil => .nil
  | _, _, 0, .cons _ rs => .cons r rs
  | _, _, i + 1, .cons q rs => .cons q (RepAll.set r i rs)
theorem RepAll.rev : ∀ {ds : List PyData} {vs : List V}, RepAll K L H ds vs → RepAll K L H ds.reverse vs.reverse
  | _, _, .nil => .nil
  | _, _, .cons r rs => by
    rw [List.reverse_cons, List.reverse_cons]
    exact (RepAll.rev rs).append (.cons r .nil)
theorem RepAll.ints : ∀ {ds : List PyData} {vs : List V} {ns : List Int}, RepAll K L H ds vs → intsD ds = some ns → vs = ns.map V.int ∧ ds = ns.map PyData.int
  | _, _, _, .nil, h => by
    have h' : some ([] : List Int) = some _ := h
    cases h'; exact ⟨rfl, rfl⟩
  | d :: ds, v :: vs, ns, .cons r rs, h => by
    cases r with
    | int i =>
      have h' : (intsD ds).map (i :: ·) = some ns := h
      cases e : intsD ds with
      | none => rw [e] at h'; cases h'
      | some ms =>
        rw [e] at h'; cases h'
        obtain ⟨h1, h2⟩ := RepAll.ints rs e
        exact ⟨by rw [h1]; rfl, by rw [h2]; rfl⟩
    | _ => cases h
theorem RepAll.bools : ∀ {ds : List PyData} {vs : List V} {ns : List Bool}, RepAll K L H ds vs → boolsD ds = some ns → vs = ns.map V.bl ∧ ds = ns.map PyData.bool
  | _, _, _, .nil, h => by
    have h' : some ([] : List Bool) = some _ := h
    cases h'; exact ⟨rfl, rfl⟩
  | d :: ds, v :: vs, ns, .cons r rs, h => by
    cases r with
    | bl i =>
      have h' : (boolsD ds).map (i :: ·) = some ns := h
      cases e : boolsD ds with
      | none => rw [e] at h'; cases h'
      | some ms =>
        rw [e] at h'; cases h'
        obtain ⟨h1, h2⟩ := RepAll.bools rs e
        exact ⟨by rw [h1]; rfl, by rw [h2]; rfl⟩
    | _ => cases h
theorem RepAll.of_ints (ns : List Int) : RepAll K L H (ns.map PyData.int) (ns.map V.int) := by
  induction ns with
  | nil => exact .nil
  | cons n ns ih => exact .cons (.int n) ih
end

/-- a value that is read -/
inductive Top (K : PySem.W.Frag) (L : List Addr) (H : Hp) : PyData → V → Prop where
  | of {d : PyData} {v : V} (r : Rep K L H d v) : Top K L H d v
  | lst {a : Addr} {xs : List V} {ds : List PyData} (h : LsK K H a xs) (r : RepAll K L H ds xs) : Top K L H (.list ds) (.ref a)
  | dct {a : Addr} {kvs : List (Key × V)} {ps : List (PyData × PyData)} (h : H a = some (.dK kvs)) (r : RepKs K L H ps kvs) : Top K L H (.dict ps) (.ref a)
section
variable {K : PySem.W.Frag} {L : List Addr} {H : Hp} {v : V}
theorem Top.list_inv {ds : List PyData} (t : Top K L H (.list ds) v) : ∃ a xs, v = .ref a ∧ LsK K H a xs ∧ RepAll K L H ds xs := by
  cases t with
  | of r => cases r with
    | lst n h r => exact ⟨_, _, rfl, .inl h, r⟩
    | lstK h r => exact ⟨_, _, rfl, .inr h, r⟩
  | lst h r => exact ⟨_, _, rfl, h, r⟩
theorem Top.tuple_inv {ds : List PyData} (t : Top K L H (.tuple ds) v) : ∃ a xs, v = .ref a ∧ SqT K H a xs ∧ RepAll K L H ds xs := by
  cases t with
  | of r => cases r with
    | tup h r => exact ⟨_, _, rfl, h, r⟩
theorem Top.dict_inv {ds : List (PyData × PyData)} (t : Top K L H (.dict ds) v) : ∃ a xs, v = .ref a ∧ H a = some (.dK xs) ∧ RepKs K L H ds xs := by
  cases t with
  | of r => cases r with
    | dct n h r => exact ⟨_, _, rfl, h, r⟩
  | dct h r => exact ⟨_, _, rfl, h, r⟩
theorem Top.int_inv {i : Int} (t : Top K L H (.int i) v) : v = .int i := by
  cases t with
  | of r => cases r; rfl
theorem Top.bool_inv {i : Bool} (t : Top K L H (.bool i) v) : v = .bl i := by
  cases t with
  | of r => cases r; rfl
theorem Top.str_inv {i : Str} (t : Top K L H (.str i) v) : v = .str i := by
  cases t with
  | of r => cases r; rfl
theorem Top.none_inv (t : Top K L H .none v) : v = .non := by
  cases t with
  | of r => cases r; rfl
theorem Rep.int_inv {i : Int} (t : Rep K L H (.int i) v) : v = .int i := by cases t; rfl
theorem Rep.bool_inv {i : Bool} (t : Rep K L H (.bool i) v) : v = .bl i := by cases t; rfl
end

/-- the object o stands at a -/
inductive MoOk (K : PySem.W.Frag) (L : List Addr) (H : Hp) : MO → Addr → Prop where
  | l {a : Addr} {xs : List V} {ds : List PyData} (h : H a = some (.lst xs)) (r : RepAll K L H ds xs) : MoOk K L H (.l ds) a
  | d {a : Addr} {kvs : List (Key × V)} {ps : List (Key × PyData)} (h : H a = some (.dK kvs)) (r : Paired (fun (p : Key × PyData) (q : Key × V) => p.1 = q.1 ∧ Rep K L H p.2 q.2) ps kvs) : MoOk K L H (.d ps) a
section
variable {K : PySem.W.Frag} {L L' O : List Addr} {H H' : Hp} {o : MO} {a : Addr}
theorem RepKs.of {ps : List (Key × PyData)} {kvs : List (Key × V)} (r : Paired (fun (p : Key × PyData) (q : Key × V) => p.1 = q.1 ∧ Rep K L H p.2 q.2) ps kvs) : RepKs K L H (ps.map fun p => (kD p.1, p.2)) kvs := by
  induction r with
  | nil => exact .nil
  | @cons p q ps kvs h _ ih =>
    obtain ⟨k, d⟩ := p
    obtain ⟨k2, v⟩ := q
    obtain ⟨h1, h2⟩ := h
    have h1 : k = k2 := h1
    subst h1
    exact .cons h2 ih
theorem MoOk.top (m : MoOk K L H o a) : Top K L H o.data (.ref a) := by
  cases m with
  | l h r => exact .lst (.inl (.inl h)) r
  | d h r => exact .dct h (RepKs.of r)
theorem MoOk.rep (m : MoOk K L H o a) (n : a ∉ L) : Rep K L H o.data (.ref a) := by
  cases m with
  | l h r => exact .lst n (.inl h) r
  | d h r => exact .dct n h (RepKs.of r)
theorem MoOk.mut (m : MoOk K L H o a) : ∃ u, H a = some u ∧ ¬ isT u := by
  cases m with
  | l h r => exact ⟨_, h, fun z => z⟩
  | d h r => exact ⟨_, h, fun z => z⟩
theorem MoOk.ext (e : Ext O H H') (s : ∀ b, b ∈ O → b ∈ L) (k : ∀ u, H a = some u → H' a = some u) (m : MoOk K L H o a) : MoOk K L H' o a := by
  cases m with
  | l h r => exact .l (k _ h) (r.ext e s)
  | d h r => exact .d (k _ h) (L2.Paired.mapP r fun p q z => ⟨z.1, z.2.ext e s⟩)
theorem MoOk.sub (s : ∀ b, b ∈ L' → b ∈ L) (m : MoOk K L H o a) : MoOk K L' H o a := by
  cases m with
  | l h r => exact .l h (r.sub s)
  | d h r => exact .d h (L2.Paired.mapP r fun p q z => ⟨z.1, z.2.sub s⟩)
theorem MoOk.add (s : ∀ b, b ∈ L' → b ∈ L ∨ H b = none) (m : MoOk K L H o a) : MoOk K L' H o a := by
  cases m with
  | l h r => exact .l h (r.add s)
  | d h r => exact .d h (L2.Paired.mapP r fun p q z => ⟨z.1, z.2.add s⟩)
end
end Rf

set_option Elab.async false
set_option linter.all false
set_option maxRecDepth 100000
set_option maxHeartbeats 4000000
/-! Rf3: a frame's names and what they stand for. -/
namespace Rf
open PySem PySem.Spec L2

/-- what a call holds fixed: the addresses that others own, the heap at the entry, the parameters' own addresses -/
structure Wd where
  D : List Addr
  H0 : Hp
  P0 : List (Option Addr)
abbrev Own := List (Option Addr)
def at2 (A : Own) (i : Nat) : Option Addr := (A[i]?).join
def Lk (W : Wd) (A : Own) : List Addr := W.D ++ A.filterMap id
abbrev ow (A : Own) : List Addr := A.filterMap id
theorem at2_ow {A : Own} {i : Nat} {a : Addr} (h : at2 A i = some a) : a ∈ ow A := by
  unfold at2 at h
  cases e : A[i]? with
  | none => rw [e] at h; cases h
  | some x =>
    rw [e] at h
    have h : x = some a := h
    subst h
    exact List.mem_filterMap.mpr ⟨some a, List.mem_of_getElem? e, rfl⟩
theorem ow_at2 {A : Own} {a : Addr} (h : a ∈ ow A) : ∃ i, at2 A i = some a := by
  obtain ⟨x, hx, e⟩ := List.mem_filterMap.mp h
  have e : x = some a := e
  subst e
  obtain ⟨i, hi⟩ := List.getElem?_of_mem hx
  exact ⟨i, by unfold at2; rw [hi]; rfl⟩
theorem ow_Lk {W : Wd} {A : Own} : ∀ a, a ∈ ow A → a ∈ Lk W A := fun _ h => List.mem_append_right _ h
theorem at2_set {A : Own} {i j : Nat} {x : Option Addr} (h : i < A.length) : at2 (A.set i x) j = if j = i then x else at2 A j := by
  unfold at2
  by_cases e : j = i
  · subst e; rw [List.getElem?_set_self h, if_pos rfl]; rfl
  · rw [List.getElem?_set_ne (Ne.symm e), if_neg e]
theorem slot_set {ρ : Env} {i j : Nat} {x : Option SV} (h : i < ρ.length) : slot (ρ.set i x) j = if j = i then x else slot ρ j := by
  unfold slot
  by_cases e : j = i
  · subst e; rw [List.getElem?_set_self h, if_pos rfl]; rfl
  · rw [List.getElem?_set_ne (Ne.symm e), if_neg e]
theorem slot_lt {ρ : Env} {i : Nat} {s : SV} (h : slot ρ i = some s) : i < ρ.length := by
  unfold slot at h
  cases e : ρ[i]? with
  | none => rw [e] at h; cases h
  | some x => exact (List.getElem?_eq_some_iff.mp e).1

/-- where a def of the module stands -/
def fnA (K : PySem.W.Frag) (x : Str) : Addr := He.fAd K (x, none)
def SlotOk (K : PySem.W.Frag) (W : Wd) (A : Own) (H : Hp) (i : Nat) (v : V) : SV → Prop
  | .v d => at2 A i = none ∧ Rep K (Lk W A) H d v
  | .m o => ∃ a, at2 A i = some a ∧ v = .ref a ∧ W.H0 a = none ∧ MoOk K (Lk W A) H o a
  | .p o => ∃ a, at2 A i = some a ∧ v = .ref a ∧ at2 W.P0 i = some a ∧ MoOk K (Lk W A) H o a
  | .f _ x => at2 A i = none ∧ v = .ref (fnA K x)
structure Sim (K : PySem.W.Frag) (W : Wd) (A : Own) (H : Hp) (ρ : Env) (σ : St) : Prop where
  lenA : A.length = ρ.length
  lenS : σ.length = ρ.length
  slots : ∀ i s, slot ρ i = some s → ∃ v, σ[i]? = some (some v) ∧ SlotOk K W A H i v s
  free : ∀ i, slot ρ i = none → at2 A i = none
  inj : ∀ i j a, at2 A i = some a → at2 A j = some a → i = j
  dsj : ∀ i a, at2 A i = some a → a ∉ W.D
  lck : ∀ a, a ∈ W.D → H a ≠ none
  ext0 : Ext (ow W.P0) W.H0 H
section
variable {K : PySem.W.Frag} {W : Wd} {A : Own} {H H' : Hp} {ρ ρ' : Env} {σ : St}
theorem Sim.owned (S : Sim K W A H ρ σ) {i : Nat} {a : Addr} (h : at2 A i = some a) : ∃ s o, slot ρ i = some s ∧ s.mo = some o ∧ σ[i]? = some (some (.ref a)) ∧ MoOk K (Lk W A) H o a := by
  cases e : slot ρ i with
  | none => rw [S.free i e] at h; cases h
  | some s =>
    obtain ⟨v, h1, h2⟩ := S.slots i s e
    cases s with
    | f g x => rw [h2.1] at h; cases h
    | v d => rw [h2.1] at h; cases h
    | m o =>
      obtain ⟨b, q1, q2, _, q3⟩ := h2
      rw [h] at q1; cases q1; subst q2
      exact ⟨_, o, rfl, rfl, h1, q3⟩
    | p o =>
      obtain ⟨b, q1, q2, _, q3⟩ := h2
      rw [h] at q1; cases q1; subst q2
      exact ⟨_, o, rfl, rfl, h1, q3⟩
theorem Sim.own_at (S : Sim K W A H ρ σ) {i : Nat} {o : MO} (h : own ρ i = some o) : ∃ a, at2 A i = some a ∧ σ[i]? = some (some (.ref a)) ∧ MoOk K (Lk W A) H o a := by
  unfold own at h
  cases e : slot ρ i with
  | none => rw [e] at h; cases h
  | some s =>
    rw [e] at h
    have h : s.mo = some o := h
    obtain ⟨v, h1, h2⟩ := S.slots i s e
    cases s with
    | f g x => cases h
    | v d => cases h
    | m o' =>
      cases h
      obtain ⟨b, q1, q2, _, q3⟩ := h2
      subst q2
      exact ⟨b, q1, h1, q3⟩
    | p o' =>
      cases h
      obtain ⟨b, q1, q2, _, q3⟩ := h2
      subst q2
      exact ⟨b, q1, h1, q3⟩
theorem Sim.live (S : Sim K W A H ρ σ) : ∀ a, a ∈ Lk W A → H a ≠ none := fun a h => by
  rcases List.mem_append.mp h with h | h
  · exact S.lck a h
  · obtain ⟨i, e⟩ := ow_at2 h
    obtain ⟨_, _, _, _, _, m⟩ := S.owned e
    obtain ⟨u, hu, _⟩ := m.mut
    rw [hu]; simp
/-- the heap grows -/
theorem Sim.grow (S : Sim K W A H ρ σ) (e : Ext [] H H') : Sim K W A H' ρ σ := by
  have e' : ∀ O, Ext O H H' := fun O => e.mono fun a z => absurd z (by simp)
  have mo : ∀ {o a}, MoOk K (Lk W A) H o a → MoOk K (Lk W A) H' o a := fun m => m.ext (e' []) (fun b z => absurd z (by simp)) fun u q => e.keep _ _ q (.inl (by simp))
  refine ⟨S.lenA, S.lenS, fun i s h => ?_, S.free, S.inj, S.dsj, fun a h q => S.lck a h (e.dom a q), S.ext0.trans (e' _)⟩
  obtain ⟨v, h1, h2⟩ := S.slots i s h
  refine ⟨v, h1, ?_⟩
  cases s with
  | f g x => exact h2
  | v d => exact ⟨h2.1, h2.2.ext (e' []) fun b z => absurd z (by simp)⟩
  | m o =>
    obtain ⟨a, q1, q2, q3, q4⟩ := h2
    exact ⟨a, q1, q2, q3, mo q4⟩
  | p o =>
    obtain ⟨a, q1, q2, q3, q4⟩ := h2
    exact ⟨a, q1, q2, q3, mo q4⟩
/-- fewer addresses are others' -/
theorem Sim.less {D' : List Addr} (S : Sim K W A H ρ σ) (h : ∀ a, a ∈ D' → a ∈ W.D) : Sim K { W with D := D' } A H ρ σ := by
  have s : ∀ a, a ∈ Lk { W with D := D' } A → a ∈ Lk W A := fun a q => by
    rcases List.mem_append.mp q with q | q
    · exact List.mem_append_left _ (h a q)
    · exact List.mem_append_right _ q
  refine ⟨S.lenA, S.lenS, fun i sv e => ?_, S.free, S.inj, fun i a e q => S.dsj i a e (h a q), fun a q => S.lck a (h a q), S.ext0⟩
  obtain ⟨v, h1, h2⟩ := S.slots i sv e
  refine ⟨v, h1, ?_⟩
  cases sv with
  | f g x => exact h2
  | v d => exact ⟨h2.1, h2.2.sub s⟩
  | m o =>
    obtain ⟨a, q1, q2, q3, q4⟩ := h2
    exact ⟨a, q1, q2, q3, q4.sub s⟩
  | p o =>
    obtain ⟨a, q1, q2, q3, q4⟩ := h2
    exact ⟨a, q1, q2, q3, q4.sub s⟩
/-- a new address, then the heap with it -/
theorem Sim.lock {p : Addr} {u : HO} (S : Sim K W A H ρ σ) (n : H p = none) : Sim K { W with D := p :: W.D } A (upd H p u) ρ σ := by
  have np : ∀ {i a}, at2 A i = some a → a ≠ p := fun {i a} e z => by
    subst z
    exact S.live _ (List.mem_append_right _ (at2_ow e)) n
  have s : ∀ a, a ∈ Lk { W with D := p :: W.D } A → a ∈ Lk W A ∨ H a = none := fun a q => by
    rcases List.mem_append.mp q with q | q
    · rcases List.mem_cons.mp q with q | q
      · subst q; exact .inr n
      · exact .inl (List.mem_append_left _ q)
    · exact .inl (List.mem_append_right _ q)
  have G := S.grow (Ext.new (O := []) u n)
  have e := Ext.new (O := []) u n
  refine ⟨S.lenA, S.lenS, fun i sv h => ?_, S.free, S.inj, fun i a h q => ?_, fun a q => ?_, S.ext0.trans (Ext.new _ n)⟩
  · obtain ⟨v, h1, h2⟩ := S.slots i sv h
    refine ⟨v, h1, ?_⟩
    cases sv with
    | f g x => exact h2
    | v d => exact ⟨h2.1, (h2.2.add s).ext e fun b z => absurd z (by simp)⟩
    | m o =>
      obtain ⟨a, q1, q2, q3, q4⟩ := h2
      exact ⟨a, q1, q2, q3, (q4.add s).ext e (fun b z => absurd z (by simp)) fun u q => e.keep _ _ q (.inl (by simp))⟩
    | p o =>
      obtain ⟨a, q1, q2, q3, q4⟩ := h2
      exact ⟨a, q1, q2, q3, (q4.add s).ext e (fun b z => absurd z (by simp)) fun u q => e.keep _ _ q (.inl (by simp))⟩
  · rcases List.mem_cons.mp q with q | q
    · exact np h q
    · exact S.dsj i a h q
  · rcases List.mem_cons.mp q with q | q
    · subst q; rw [upd_same]; simp
    · by_cases z : a = p
      · subst z; rw [upd_same]; simp
      · rw [upd_ne z]; exact S.lck a q
/-- a slot bound to a value -/
theorem Sim.bind (S : Sim K W A H ρ σ) {i : Nat} {d : PyData} {v : V} (hi : i < ρ.length) (r : Rep K (Lk W A) H d v) : Sim K W (A.set i none) H (ρ.set i (some (.v d))) (σ.set i (some v)) := by
  have hA : i < A.length := by rw [S.lenA]; exact hi
  have hS : i < σ.length := by rw [S.lenS]; exact hi
  have ae : ∀ j, at2 (A.set i none) j = if j = i then none else at2 A j := fun j => at2_set hA
  have s : ∀ a, a ∈ Lk W (A.set i none) → a ∈ Lk W A := fun a q => by
    rcases List.mem_append.mp q with q | q
    · exact List.mem_append_left _ q
    · obtain ⟨j, e⟩ := ow_at2 q
      rw [ae] at e
      by_cases z : j = i
      · rw [if_pos z] at e; cases e
      · rw [if_neg z] at e
        exact List.mem_append_right _ (at2_ow e)
  refine ⟨by simp [S.lenA], by simp [S.lenS], fun j sv h => ?_, fun j h => ?_, fun j k a h1 h2 => ?_, fun j a h => ?_, S.lck, S.ext0⟩
  · rw [slot_set hi] at h
    by_cases z : j = i
    · subst z
      rw [if_pos rfl] at h; cases h
      refine ⟨v, List.getElem?_set_self hS, ?_, r.sub s⟩
      rw [ae, if_pos rfl]
    · rw [if_neg z] at h
      obtain ⟨w, h1, h2⟩ := S.slots j sv h
      refine ⟨w, by rw [List.getElem?_set_ne (Ne.symm z)]; exact h1, ?_⟩
      cases sv with
      | f g x => exact ⟨by rw [ae, if_neg z]; exact h2.1, h2.2⟩
      | v d => exact ⟨by rw [ae, if_neg z]; exact h2.1, h2.2.sub s⟩
      | m o =>
        obtain ⟨a, q1, q2, q3, q4⟩ := h2
        exact ⟨a, by rw [ae, if_neg z]; exact q1, q2, q3, q4.sub s⟩
      | p o =>
        obtain ⟨a, q1, q2, q3, q4⟩ := h2
        exact ⟨a, by rw [ae, if_neg z]; exact q1, q2, q3, q4.sub s⟩
  · rw [slot_set hi] at h
    rw [ae]
    by_cases z : j = i
    · rw [if_pos z]
    · rw [if_neg z] at h ⊢
      exact S.free j h
  · rw [ae] at h1 h2
    by_cases z : j = i
    · rw [if_pos z] at h1; cases h1
    · by_cases y : k = i
      · rw [if_pos y] at h2; cases h2
      · rw [if_neg z] at h1; rw [if_neg y] at h2
        exact S.inj j k a h1 h2
  · rw [ae] at h
    by_cases z : j = i
    · rw [if_pos z] at h; cases h
    · rw [if_neg z] at h; exact S.dsj j a h
/-- a slot forgotten; its address, if any, is nobody's, or still locked -/
theorem Sim.drop {w : Option V} (S : Sim K W A H ρ σ) {i : Nat} (hi : i < ρ.length) : Sim K W (A.set i none) H (ρ.set i none) (σ.set i w) := by
  have hA : i < A.length := by rw [S.lenA]; exact hi
  have ae : ∀ j, at2 (A.set i none) j = if j = i then none else at2 A j := fun j => at2_set hA
  have s : ∀ a, a ∈ Lk W (A.set i none) → a ∈ Lk W A := fun a q => by
    rcases List.mem_append.mp q with q | q
    · exact List.mem_append_left _ q
    · obtain ⟨j, e⟩ := ow_at2 q
      rw [ae] at e
      by_cases z : j = i
      · rw [if_pos z] at e; cases e
      · rw [if_neg z] at e
        exact List.mem_append_right _ (at2_ow e)
  refine ⟨by simp [S.lenA], by simp [S.lenS], fun j sv h => ?_, fun j h => ?_, fun j k a h1 h2 => ?_, fun j a h => ?_, S.lck, S.ext0⟩
  · rw [slot_set hi] at h
    by_cases z : j = i
    · rw [if_pos z] at h; cases h
    · rw [if_neg z] at h
      obtain ⟨w, h1, h2⟩ := S.slots j sv h
      refine ⟨w, by rw [List.getElem?_set_ne (Ne.symm z)]; exact h1, ?_⟩
      cases sv with
      | f g x => exact ⟨by rw [ae, if_neg z]; exact h2.1, h2.2⟩
      | v d => exact ⟨by rw [ae, if_neg z]; exact h2.1, h2.2.sub s⟩
      | m o =>
        obtain ⟨a, q1, q2, q3, q4⟩ := h2
        exact ⟨a, by rw [ae, if_neg z]; exact q1, q2, q3, q4.sub s⟩
      | p o =>
        obtain ⟨a, q1, q2, q3, q4⟩ := h2
        exact ⟨a, by rw [ae, if_neg z]; exact q1, q2, q3, q4.sub s⟩
  · rw [slot_set hi] at h
    rw [ae]
    by_cases z : j = i
    · rw [if_pos z]
    · rw [if_neg z] at h ⊢
      exact S.free j h
  · rw [ae] at h1 h2
    by_cases z : j = i
    · rw [if_pos z] at h1; cases h1
    · by_cases y : k = i
      · rw [if_pos y] at h2; cases h2
      · rw [if_neg z] at h1; rw [if_neg y] at h2
        exact S.inj j k a h1 h2
  · rw [ae] at h
    by_cases z : j = i
    · rw [if_pos z] at h; cases h
    · rw [if_neg z] at h; exact S.dsj j a h
/-- a slot comes to own an object that was locked -/
theorem Sim.take {a : Addr} (S : Sim K { W with D := a :: W.D } A H ρ σ) (hn : a ∉ W.D) {i : Nat} {o : MO} (hi : i < ρ.length) (h0 : W.H0 a = none) (m : MoOk K (Lk { W with D := a :: W.D } A) H o a) :
    Sim K W (A.set i (some a)) H (ρ.set i (some (.m o))) (σ.set i (some (.ref a))) := by
  have hA : i < A.length := by rw [S.lenA]; exact hi
  have hS : i < σ.length := by rw [S.lenS]; exact hi
  have ae : ∀ j, at2 (A.set i (some a)) j = if j = i then some a else at2 A j := fun j => at2_set hA
  have s : ∀ b, b ∈ Lk W (A.set i (some a)) → b ∈ Lk { W with D := a :: W.D } A := fun b q => by
    rcases List.mem_append.mp q with q | q
    · exact List.mem_append_left _ (List.mem_cons_of_mem _ q)
    · obtain ⟨j, e⟩ := ow_at2 q
      rw [ae] at e
      by_cases z : j = i
      · rw [if_pos z] at e; cases e
        exact List.mem_append_left _ List.mem_cons_self
      · rw [if_neg z] at e
        exact List.mem_append_right _ (at2_ow e)
  have na : ∀ j, at2 A j = some a → False := fun j e => S.dsj j a e List.mem_cons_self
  refine ⟨by simp [S.lenA], by simp [S.lenS], fun j sv h => ?_, fun j h => ?_, fun j k b h1 h2 => ?_, fun j b h => ?_, fun b q => S.lck b (List.mem_cons_of_mem _ q), S.ext0⟩
  · rw [slot_set hi] at h
    by_cases z : j = i
    · subst z
      rw [if_pos rfl] at h; cases h
      exact ⟨_, List.getElem?_set_self hS, a, by rw [ae, if_pos rfl], rfl, h0, m.sub s⟩
    · rw [if_neg z] at h
      obtain ⟨w, h1, h2⟩ := S.slots j sv h
      refine ⟨w, by rw [List.getElem?_set_ne (Ne.symm z)]; exact h1, ?_⟩
      cases sv with
      | f g x => exact ⟨by rw [ae, if_neg z]; exact h2.1, h2.2⟩
      | v d => exact ⟨by rw [ae, if_neg z]; exact h2.1, h2.2.sub s⟩
      | m o =>
        obtain ⟨a, q1, q2, q3, q4⟩ := h2
        exact ⟨a, by rw [ae, if_neg z]; exact q1, q2, q3, q4.sub s⟩
      | p o =>
        obtain ⟨a, q1, q2, q3, q4⟩ := h2
        exact ⟨a, by rw [ae, if_neg z]; exact q1, q2, q3, q4.sub s⟩
  · rw [slot_set hi] at h
    rw [ae]
    by_cases z : j = i
    · rw [if_pos z] at h; cases h
    · rw [if_neg z] at h ⊢
      exact S.free j h
  · rw [ae] at h1 h2
    by_cases z : j = i
    · rw [if_pos z] at h1; cases h1
      by_cases y : k = i
      · exact z.trans y.symm
      · rw [if_neg y] at h2; exact (na k h2).elim
    · rw [if_neg z] at h1
      by_cases y : k = i
      · rw [if_pos y] at h2; cases h2; exact (na j h1).elim
      · rw [if_neg y] at h2
        exact S.inj j k b h1 h2
  · rw [ae] at h
    by_cases z : j = i
    · rw [if_pos z] at h; cases h; exact hn
    · rw [if_neg z] at h
      exact fun q => S.dsj j b h (List.mem_cons_of_mem _ q)
/-- an own object is written -/
theorem Sim.chg (S : Sim K W A H ρ σ) {i : Nat} {a : Addr} {o' : MO} {u : HO} (ha : at2 A i = some a) (m : MoOk K (Lk W A) (upd H a u) o' a) : Sim K W A (upd H a u) (chg ρ i o') σ ∧ Ext (ow A) H (upd H a u) := by
  obtain ⟨s, o, hs, hm, hσ, mo⟩ := S.owned ha
  obtain ⟨u0, hu, ht⟩ := mo.mut
  have e : Ext [a] H (upd H a u) := Ext.wr (List.mem_singleton.mpr rfl) hu ht
  have sa : ∀ b, b ∈ [a] → b ∈ Lk W A := fun b z => by
    rw [List.mem_singleton.mp z]; exact ow_Lk _ (at2_ow ha)
  have hi := slot_lt hs
  have sl : ∀ j, slot (Rf.chg ρ i o') j = if j = i then some (s.put o') else slot ρ j := fun j => by
    unfold Rf.chg; rw [slot_set hi, hs]; rfl
  refine ⟨⟨by unfold Rf.chg; simp [S.lenA], by unfold Rf.chg; simp [S.lenS], fun j sv h => ?_, fun j h => ?_, S.inj, S.dsj, fun b q z => S.lck b q (e.dom b z), ?_⟩, e.mono fun b z => by rw [List.mem_singleton.mp z]; exact at2_ow ha⟩
  · rw [sl] at h
    by_cases z : j = i
    · subst z
      rw [if_pos rfl] at h
      have h : s.put o' = sv := Option.some.inj h
      subst h
      obtain ⟨v, h1, h2⟩ := S.slots j s hs
      refine ⟨v, h1, ?_⟩
      cases s with
      | f g x => cases hm
      | v d => cases hm
      | m o =>
        obtain ⟨b, q1, q2, q3, q4⟩ := h2
        rw [ha] at q1; cases q1
        exact ⟨a, ha, q2, q3, m⟩
      | p o =>
        obtain ⟨b, q1, q2, q3, q4⟩ := h2
        rw [ha] at q1; cases q1
        exact ⟨a, ha, q2, q3, m⟩
    · rw [if_neg z] at h
      obtain ⟨v, h1, h2⟩ := S.slots j sv h
      refine ⟨v, h1, ?_⟩
      have other : ∀ {b}, at2 A j = some b → ∀ w, H b = some w → upd H a u b = some w := fun {b} q w hw => by
        rw [upd_ne (fun y : b = a => z (S.inj j i a (by rw [← y]; exact q) ha))]; exact hw
      cases sv with
      | f g x => exact h2
      | v d => exact ⟨h2.1, h2.2.ext e sa⟩
      | m o =>
        obtain ⟨b, q1, q2, q3, q4⟩ := h2
        exact ⟨b, q1, q2, q3, q4.ext e sa (other q1)⟩
      | p o =>
        obtain ⟨b, q1, q2, q3, q4⟩ := h2
        exact ⟨b, q1, q2, q3, q4.ext e sa (other q1)⟩
  · rw [sl] at h
    by_cases z : j = i
    · rw [if_pos z] at h; cases h
    · rw [if_neg z] at h; exact S.free j h
  · obtain ⟨v, h1, h2⟩ := S.slots i s hs
    cases s with
    | f g x => cases hm
    | v d => cases hm
    | m q =>
      obtain ⟨b, q1, q2, q3, q4⟩ := h2
      rw [ha] at q1; cases q1
      refine ⟨fun b w hb n => ?_, fun b hb => S.ext0.dom b (e.dom b hb)⟩
      have ne : b ≠ a := fun y => by subst y; rw [q3] at hb; cases hb
      rw [upd_ne ne]
      exact S.ext0.keep b w hb n
    | p q =>
      obtain ⟨b, q1, q2, q3, q4⟩ := h2
      rw [ha] at q1; cases q1
      exact S.ext0.trans (e.mono fun b z => by rw [List.mem_singleton.mp z]; exact at2_ow q3)
end

/-- what an expression hands on -/
def PostV (K : PySem.W.Frag) (W : Wd) (A : Own) (H H' : Hp) (ρ' : Env) (σ : St) (v : V) : RV → Prop
  | .v d => Sim K W A H' ρ' σ ∧ Rep K (Lk W A) H' d v
  | .m o => ∃ a, v = .ref a ∧ H a = none ∧ Sim K { W with D := a :: W.D } A H' ρ' σ ∧ MoOk K (Lk { W with D := a :: W.D } A) H' o a
  | .b i => Sim K W A H' ρ' σ ∧ σ[i]? = some (some v) ∧ ∃ a, at2 A i = some a
  | .f _ x => Sim K W A H' ρ' σ ∧ v = .ref (fnA K x)
  | .mt o d => ∃ p a v2, v = .ref p ∧ SqT K H' p [.ref a, v2] ∧ H a = none ∧ Sim K { W with D := a :: W.D } A H' ρ' σ ∧ MoOk K (Lk { W with D := a :: W.D } A) H' o a ∧ Rep K (Lk { W with D := a :: W.D } A) H' d v2
/-- .. as it is held while others run -/
def Held (K : PySem.W.Frag) (W : Wd) (A : Own) (H : Hp) (σ : St) (v : V) : RV → Prop
  | .v d => Rep K (Lk W A) H d v
  | .m o => Rep K (Lk W A) H o.data v
  | .b i => σ[i]? = some (some v) ∧ ∃ a, at2 A i = some a
  | .f _ x => v = .ref (fnA K x)
  | .mt _ _ => True
section
variable {K : PySem.W.Frag} {W : Wd} {A : Own} {H H' H2 : Hp} {ρ ρ' ρ2 : Env} {σ : St} {v : V} {r : RV}
theorem PostV.held (S : Sim K W A H ρ σ) (p : PostV K W A H H' ρ' σ v r) : Sim K W A H' ρ' σ ∧ Held K W A H' σ v r := by
  cases r with
  | v d => exact p
  | m o =>
    obtain ⟨a, rfl, hn, S', m⟩ := p
    have n1 : a ∉ Lk W A := fun q => S.live a q hn
    have s : ∀ b, b ∈ Lk W A → b ∈ Lk { W with D := a :: W.D } A := fun b q => by
      rcases List.mem_append.mp q with q | q
      · exact List.mem_append_left _ (List.mem_cons_of_mem _ q)
      · exact List.mem_append_right _ q
    exact ⟨S'.less (W := { W with D := a :: W.D }) fun b q => List.mem_cons_of_mem _ q, (m.sub s).rep n1⟩
  | b i => exact ⟨p.1, p.2⟩
  | f g x => exact p
  | mt o d =>
    obtain ⟨_, a, _, _, _, _, S', _⟩ := p
    exact ⟨S'.less (W := { W with D := a :: W.D }) fun b q => List.mem_cons_of_mem _ q, trivial⟩
theorem Held.ext (e : Ext (ow A) H H') (h : Held K W A H σ v r) : Held K W A H' σ v r := by
  cases r with
  | v d => exact Rep.ext e ow_Lk h
  | m o => exact Rep.ext e ow_Lk h
  | b i => exact h
  | f g x => exact h
  | mt o d => trivial
theorem Held.keep {d : PyData} (h : Held K W A H σ v r) (k : Rf.keep r = some d) : Rep K (Lk W A) H d v := by
  cases r with
  | v x => cases k; exact h
  | m o => cases k; exact h
  | b i => cases k
  | f g x => cases k
  | mt o d => cases k
theorem Held.look {d : PyData} (S : Sim K W A H ρ σ) (h : Held K W A H σ v r) (k : Rf.look ρ r = some d) : Top K (Lk W A) H d v := by
  cases r with
  | v x => cases k; exact .of h
  | m o => cases k; exact .of h
  | b i =>
    have k : (Rf.own ρ i).map MO.data = some d := k
    cases e : Rf.own ρ i with
    | none => rw [e] at k; cases k
    | some o =>
      rw [e] at k
      have k : o.data = d := Option.some.inj k
      subst k
      obtain ⟨a, h1, h2, m⟩ := S.own_at e
      have h3 := h.1
      rw [h2] at h3
      cases h3
      exact m.top
  | f g x => cases k
  | mt o d => cases k
end
/-- a value's answer by a rule that leaves all as it is -/
def NewV (K : PySem.W.Frag) (L : List Addr) (H H' : Hp) (v : V) : RV → Prop
  | .v d => Ext [] H H' ∧ Rep K L H' d v
  | .m o => ∃ a u, v = .ref a ∧ H a = none ∧ H' = upd H a u ∧ MoOk K L H' o a ∧ ∀ L', (∀ b, b ∈ L' → b ∈ L ∨ H b = none) → MoOk K L' H' o a
  | .b _ => False
  | .f _ _ => False
  | .mt _ _ => False
theorem NewV.post {K : PySem.W.Frag} {W : Wd} {A : Own} {H Hs H' : Hp} {ρ : Env} {σ : St} {v : V} {r : RV} (S : Sim K W A H ρ σ) (n : NewV K (Lk W A) H H' v r) (hs : ∀ a, H a = none → Hs a = none) : PostV K W A Hs H' ρ σ v r ∧ Ext [] H H' := by
  cases r with
  | v d => exact ⟨⟨S.grow n.1, n.2⟩, n.1⟩
  | m o =>
    obtain ⟨a, u, rfl, hn, rfl, m, ml⟩ := n
    refine ⟨⟨a, rfl, hs a hn, S.lock hn, ml _ fun b q => ?_⟩, Ext.new u hn⟩
    rcases List.mem_append.mp q with q | q
    · rcases List.mem_cons.mp q with q | q
      · subst q; exact .inr hn
      · exact .inl (List.mem_append_left _ q)
    · exact .inl (List.mem_append_right _ q)
  | b i => exact n.elim
  | f g x => exact n.elim
  | mt o d => exact n.elim
/-- a new list of these -/
theorem newL {K : PySem.W.Frag} {L : List Addr} {H : Hp} {p : Addr} {ds : List PyData} {xs : List V} (hn : H p = none) (r : RepAll K L H ds xs) : NewV K L H (upd H p (.lst xs)) (.ref p) (.m (.l ds)) := by
  have e := Ext.new (O := []) (.lst xs) hn
  refine ⟨p, _, rfl, hn, rfl, .l upd_same (r.ext e fun b z => absurd z (by simp)), fun L' h => .l upd_same ((r.add h).ext e fun b z => absurd z (by simp))⟩
theorem newT {K : PySem.W.Frag} {L : List Addr} {H : Hp} {p : Addr} {ds : List PyData} {xs : List V} (hn : H p = none) (r : RepAll K L H ds xs) : NewV K L H (upd H p (.tup xs)) (.ref p) (.v (.tuple ds)) := by
  have e := Ext.new (O := []) (.tup xs) hn
  exact ⟨e, .tup (.inl (.inl upd_same)) (r.ext e fun b z => absurd z (by simp))⟩
theorem sameV {K : PySem.W.Frag} {L : List Addr} {H : Hp} {d : PyData} {v : V} (r : Rep K L H d v) : NewV K L H H v (.v d) := ⟨Ext.refl _ _, r⟩
end Rf

set_option Elab.async false
set_option linter.all false
set_option maxRecDepth 100000
set_option maxHeartbeats 4000000
/-! Rg1: rules that the layer lacks: tuple += tuple, tuple * int, getItem of a list by values. -/
namespace Rf
open PySem PySem.Spec L2
section
open PyProof.Rows HT
variable {prog : Program} {w : World} {A : Around} {E : Value → Shared → Prop} {s : Shared}
theorem noI_tuple_add : typeLookup (.type "tuple") (dunderI "add") = pure none := by rw [typeLookup_type, builtinLookup_eq_fast]; kernel_rfl
theorem iconcatM {S : PySem.Spec} {t b : Addr} {n n2 : Nat} {dd dd2 : Option Addr} {sl sl2 : Array (Option Value)} {vs ws : List Value} {Q : Value → Shared → Prop}
    (ho : s.heap.get? t = some { cls := .type "tuple", dict := dd, data := .seq vs.toArray n, slots := sl }) (ho2 : s.heap.get? b = some { cls := .type "tuple", dict := dd2, data := .seq ws.toArray n2, slots := sl2 })
    (g : Meets (Builtin.«tuple.__add__» ⟨[.ref t, .ref b], []⟩) S) (h : S A (wants Q E) s) : wpAny (model prog w) A (inplaceOp .Add (.ref t) (.ref b)) Q E s :=
  wpAny_inplaceOp_concat ⟨_, ho, rfl⟩ ⟨_, ho2, rfl⟩ noI_tuple_add noFill_tuple_add seq_tuple_add (call_meets PySem.F.slot_tuple_add ⟨_, ho, rfl⟩ PySem.F.entry_tuple_add (PySem.F.args_tuple_add_2 _ _) g h)
theorem icat_tup {t b : Addr} {vs ws : List Value} {Q : Value → Shared → Prop} (ht : IsTup s.heap t vs.toArray) (hb : IsTup s.heap b ws.toArray)
    (h0 : vs = [] → Q (.ref b) s) (h1 : vs ≠ [] → ws = [] → Q (.ref t) s) (h2 : vs ≠ [] → ws ≠ [] → Q (.ref s.heap.objs.size) { s with heap := s.heap.push { cls := .type "tuple", data := .seq (vs ++ ws).toArray } })
    (hsz : vs.length + ws.length ≤ sizeLine) : wpAny (model prog w) A (inplaceOp .Add (.ref t) (.ref b)) Q E s := by
  obtain ⟨⟨cls, dd, data, sl⟩, ho, hc, n, hd⟩ := id ht
  obtain ⟨⟨cls2, dd2, data2, sl2⟩, ho2, hc2, n2, hd2⟩ := id hb
  simp only at hc hd hc2 hd2
  subst hc hd hc2 hd2
  have e : vs.toArray ++ ws.toArray = (vs ++ ws).toArray := by simp
  by_cases hv : vs = []
  · subst hv
    exact iconcatM ho ho2 (tuple_addW0 t b ([] : List Value).toArray ws.toArray n n2 dd dd2 sl sl2 (by simp)) ⟨ho, ho2, h0 rfl⟩
  · by_cases hw : ws = []
    · exact iconcatM ho ho2 (tuple_addW1 t b vs.toArray ws.toArray n n2 dd dd2 sl sl2 (by simpa using hv) (by simp [hw])) ⟨ho, ho2, h1 hv hw⟩
    · refine iconcatM ho ho2 (tuple_addW2 t b vs.toArray ws.toArray n n2 dd dd2 sl sl2 (by simpa using hv) (by simpa using hw) (by rw [List.size_toArray, List.size_toArray]; exact hsz)) ⟨ho, ho2, ?_⟩
      rw [e]
      exact h2 hv hw
theorem tuple_mulS (l : Addr) (items : Array Value) (n : Nat) (dd : Option Addr) (sl : Array (Option Value)) (x : Int) (u : Tok) (c0 : (decide (x < -(2 ^ 63)) || decide (x ≥ 2 ^ 63)) = false) (c1 : (items.isEmpty || x == 1) = true) :
    Meets (Builtin.«tuple.__mul__» ⟨[.ref l, .int x u], []⟩) (fun _ R s => s.heap.get? l = some { cls := .type "tuple", dict := dd, data := .seq items n, slots := sl } ∧ R (.ok (.ret (Value.ref l))) s) :=
  .of_wp fun prog w A R s h => by
    obtain ⟨hp, g, d, tk, os⟩ := s
    obtain ⟨hl, h⟩ := h
    have f1 := AutoSeq1.idx_int
    wp_walk using wpAny_loadPart' hl
    repeat (first
      | (refine wpAny_ite_false (decide_eq_false (by rw [c0]; exact Bool.false_ne_true)) ?_; wp_walk using wpAny_loadPart' hl)
      | (refine wpAny_ite_true (decide_eq_true c1) ?_; wp_walk using wpAny_loadPart' hl))
    exact ⟨_, rfl, h⟩
theorem tuple_mulZ (l : Addr) (items : Array Value) (n : Nat) (dd : Option Addr) (sl : Array (Option Value)) (x : Int) (u : Tok) (c0 : (decide (x < -(2 ^ 63)) || decide (x ≥ 2 ^ 63)) = false) (c1 : (items.isEmpty || x == 1) = false) (c2 : (decide (x ≤ 0) || items.isEmpty) = true) :
    Meets (Builtin.«tuple.__mul__» ⟨[.ref l, .int x u], []⟩) (fun _ R s => s.heap.get? l = some { cls := .type "tuple", dict := dd, data := .seq items n, slots := sl } ∧
      R (.ok (.ret (Value.ref s.heap.objs.size))) { s with heap := s.heap.push { cls := Value.type "tuple", data := Data.seq #[] }, toks := s.toks }) :=
  .of_wp fun prog w A R s h => by
    obtain ⟨hp, g, d, tk, os⟩ := s
    obtain ⟨hl, h⟩ := h
    have f1 := AutoSeq1.idx_int
    wp_walk using wpAny_loadPart' hl
    repeat (first
      | (refine wpAny_ite_false (decide_eq_false (by rw [c0]; exact Bool.false_ne_true)) ?_; wp_walk using wpAny_loadPart' hl)
      | (refine wpAny_ite_false (decide_eq_false (by rw [c1]; exact Bool.false_ne_true)) ?_; wp_walk using wpAny_loadPart' hl)
      | (refine wpAny_ite_true (decide_eq_true c2) ?_; wp_walk using wpAny_loadPart' hl))
    exact ⟨_, rfl, h⟩
end
section
variable {X : Cx}
def ipT (K : PySem.W.Frag) : TIp := fun x y H Q => ∃ a b xs ys, x = .ref a ∧ y = .ref b ∧ SqT K H a xs ∧ SqT K H b ys ∧ xs.length + ys.length ≤ sizeLine ∧
  (xs = [] → Q (.ref b) H) ∧ (xs ≠ [] → ys = [] → Q (.ref a) H) ∧ (xs ≠ [] → ys ≠ [] → ∀ p, H p = none → Q (.ref p) (upd H p (.tup (xs ++ ys))))
theorem ip_tup : PIp X .Add (ipT X.K) := by
  intro pins s σ H x y v u Q I rx ry h
  obtain ⟨a, b, xs, ys, rfl, rfl, ha, hb, hz, q0, q1, q2⟩ := h
  cases rx
  cases ry
  obtain ⟨its, r1, p1, _⟩ := I.tuple ha
  obtain ⟨its2, r2, p2, _⟩ := I.tuple hb
  refine icat_tup p1 p2 (fun z => ⟨.ref b, H, I, rfl, q0 (r1.nil_iff.mp z)⟩) (fun z z2 => ⟨.ref a, H, I, rfl, q1 (fun z3 => z (r1.nil_iff.mpr z3)) (r2.nil_iff.mp z2)⟩) (fun z z2 => ?_) (by rw [← r1.length, ← r2.length]; exact hz)
  refine ⟨.ref s.heap.objs.size, _, I.laid (t' := s.toks) (o := .tup (xs ++ ys)) (fun b ob q => Heap.get?_push_of_some _ q) (Nat.le_refl _) ?_, rfl, q2 (fun w => z (r1.nil_iff.mpr w)) (fun w => z2 (r2.nil_iff.mpr w)) _ (I.hok.fresh (Nat.le_refl _))⟩
  exact ⟨by rw [List.length_append]; exact hz, _, r1.append r2, PyProof.Rows.IsTup.new _ _⟩
/-- t * k, k of 0 and 1 too -/
def rRepA (K : PySem.W.Frag) : R2 := fun x y H Q => ∃ l k xs, x = .ref l ∧ y = .int k ∧ SqT K H l xs ∧ xs ≠ [] ∧ 0 ≤ k ∧ k ≤ 1000 ∧ xs.length ≤ 1000 ∧ (k = 1 → Q (.ref l) H) ∧ (k ≠ 1 → ∀ p, H p = none → Q (.ref p) (upd H p (.tup (List.replicate k.toNat xs).flatten)))
theorem op_repA : OpR X (binaryOp .Mult) (rRepA X.K) := by
  intro pins s σ H x y v u Q I rx ry h
  obtain ⟨l, k, xs, rfl, rfl, hT, hne, h1, h2, hz, q1, q2⟩ := h
  by_cases h2k : 2 ≤ k
  · exact op_repT pins s σ H _ _ v u Q I rx ry ⟨l, k, xs, rfl, rfl, hT, hne, h2k, h2, hz, q2 (by omega)⟩
  cases rx
  obtain ⟨t, rfl⟩ := ry
  obtain ⟨its, r, ⟨⟨cls, dd, data, sl⟩, ho, hc, n, hd⟩, hs⟩ := I.tuple hT
  simp only at hc hd
  subst hc hd
  have hle : its.length = xs.length := r.length.symm
  have hn : its ≠ [] := fun e => hne (by
    rw [e] at hle
    exact List.eq_nil_of_length_eq_zero hle.symm)
  have hi : its.toArray.isEmpty = false := by
    cases its with
    | nil => exact absurd rfl hn
    | cons a b => rfl
  have c0 : (decide (k < -(2 ^ 63)) || decide (k ≥ 2 ^ 63)) = false := by
    rw [decide_eq_false (by omega), decide_eq_false (by omega)] <;> rfl
  have road : ∀ {S : PySem.Spec} (g : Meets (Builtin.«tuple.__mul__» ⟨[.ref l, .int k t], []⟩) S) (h : S X.A (wants (EP X pins σ Q) X.xe) s), wpAny (model X.prog X.w) X.A (binaryOp .Mult (.ref l) (.int k t)) (EP X pins σ Q) X.xe s := fun g h =>
    wpAny_binaryOp_repeat_ref (T := "tuple") (U := "int") (by decide) ⟨_, ho, rfl⟩ (fun s' => typeIs_int s' k t) noFill_tuple_mul F.fills_int_mul F.slot_int_rmul repeat_tuple F.slot_int_index.lookup
      (call_meets F.slot_int_rmul (typeIs_int s k t) F.entry_int_rmul (F.args_int_rmul_2 _ _) (int_rmul_tuple k t l its.toArray n dd sl)
        ⟨ho, rfl, ⟨_, ho, rfl⟩, call_meets F.slot_tuple_mul ⟨_, ho, rfl⟩ F.entry_tuple_mul (F.args_tuple_mul_2 _ _) g h⟩)
  by_cases hk1 : k = 1
  · exact road (tuple_mulS l its.toArray n dd sl k t c0 (by rw [hk1, hi]; rfl)) ⟨ho, .ref l, H, I, rfl, q1 hk1⟩
  · have hk0 : k = 0 := by omega
    refine road (tuple_mulZ l its.toArray n dd sl k t c0 (by rw [hk0, hi]; rfl) (by rw [hk0, hi]; rfl)) ⟨ho, ?_⟩
    have q3 := q2 hk1
    rw [hk0] at q3
    refine ⟨.ref s.heap.objs.size, _, I.laid (t' := s.toks) (o := .tup []) (fun b ob q => Heap.get?_push_of_some _ q) (Nat.le_refl _) ?_, rfl, q3 _ (I.hok.fresh (Nat.le_refl _))⟩
    exact ⟨by rw [sizeLine_eq]; exact Nat.zero_le _, [], .nil, PyProof.Rows.IsTup.new _ _⟩
/-- xs[i] by values -/
def rGetL (K : PySem.W.Frag) : V → V → Hp → VK → Prop := fun x y H Q => ∃ p xs i v, x = .ref p ∧ y = .int i ∧ SqL K H p xs ∧ atI xs i = some v ∧ Q v H
theorem get_list : PGet X (rGetL X.K) := by
  intro pins s σ H x y v u Q I rx ry h
  obtain ⟨p, xs, i, z, rfl, rfl, hq, he, q⟩ := h
  cases rx
  obtain ⟨t, rfl⟩ := ry
  obtain ⟨its, r, pl, hz⟩ := I.list hq
  obtain ⟨j, h1, h2, h3, h4, h5⟩ := atI_get he
  obtain ⟨w, ew, rw'⟩ := r.get h2
  have hl := r.length
  have hn := line63
  have fin : EP X pins σ Q w s := ⟨z, H, I, rw', q⟩
  by_cases h0 : 0 ≤ i
  · have hj : i.toNat = j := by
      rw [seqIndex_of h0 h5] at h1
      exact Option.some.inj h1
    exact wpAny_getItem_list pl.isList h0 (by omega) (by rw [hj]; simpa using ew) fin
  · have hj : (i + (its.toArray.size : Int)).toNat = j := by
      rw [seqIndex_neg (by omega) h4] at h1
      rw [List.size_toArray, ← hl]
      exact Option.some.inj h1
    exact wpAny_getItem_list_neg pl.isList (by omega) (by rw [List.size_toArray] <;> omega) (by omega) (by rw [hj]; simpa using ew) fin
end
end Rf

set_option Elab.async false
set_option linter.all false
set_option maxRecDepth 100000
set_option maxHeartbeats 4000000
/-! Rf4: the machine's operations are the model's. -/
namespace Rf
open PySem PySem.Spec L2

theorem lim_eq : lim = sizeLine := by decide
theorem Ends.none {α : Type} {o : Option α} (h : none = some o) : False := by cases h

def Bo.py : Bo → Operator
  | .add => .Add
  | .sub => .Sub
  | .mul => .Mult
  | .fdiv => .FloorDiv
  | .mod => .Mod
def Co.py : Co → CmpOp
  | .lt => .Lt
  | .le => .LtE
  | .gt => .Gt
  | .ge => .GtE
  | .eq => .Eq
  | .ne => .NotEq
  | .isIn => .In
  | .notIn => .NotIn
/-- an operation of two values, as the machine has it -/
def rOf (K : PySem.W.Frag) (f : PyData → PyData → Option RV) : R2 := fun x y H Q => ∃ L dx dy r, Top K L H dx x ∧ Top K L H dy y ∧ f dx dy = some r ∧ ∀ v H', NewV K L H H' v r → Q v H'

section
variable {X : Cx}
/-- a list added to a list, read in any way -/
theorem cat_lists : OpR X (binaryOp .Add) (fun x y H Q => ∃ l b xs zs, x = .ref l ∧ y = .ref b ∧ LsK X.K H l xs ∧ LsK X.K H b zs ∧ xs.length + zs.length ≤ sizeLine ∧ ∀ p, H p = none → Q (.ref p) (upd H p (.lst (xs ++ zs)))) := by
  rintro pins s σ H x y v u Q I rx ry ⟨l, b, xs, zs, rfl, rfl, hl, hb, hz, q⟩
  cases rx
  cases ry
  obtain ⟨_, i1, n1, r1, e1⟩ := hl.obj I
  obtain ⟨_, i2, n2, r2, e2⟩ := hb.obj I
  have s1 := r1.length
  have s2 := r2.length
  refine PySem.P.add_list e1 e2 ?_ (by simp only [List.size_toArray]; omega)
  have ea : i1.toArray ++ i2.toArray = (i1 ++ i2).toArray := by simp
  rw [ea]
  exact ⟨.ref s.heap.objs.size, _, I.lnew (t' := s.toks) (r1.append r2) (by rw [List.length_append]; exact hz), rfl, q _ I.fresh⟩

theorem RepAll.rep {K : PySem.W.Frag} {L : List Addr} {H : Hp} {ds : List PyData} {vs : List V} (r : RepAll K L H ds vs) : ∀ n : Nat, RepAll K L H (List.replicate n ds).flatten (List.replicate n vs).flatten
  | 0 => .nil
  | n + 1 => by
    rw [List.replicate_succ, List.replicate_succ, List.flatten_cons, List.flatten_cons]
    exact r.append (RepAll.rep r n)
theorem bin_ok (op : Bo) : OpR X (binaryOp op.py) (rOf X.K (binD op)) := by
  rintro pins s σ H x y v u Q I rx ry ⟨L, dx, dy, r, tx, ty, hf, q⟩
  unfold binD at hf
  split at hf
  · cases hf
    cases tx.int_inv
    cases ty.int_inv
    exact op_add pins s σ H _ _ v u Q I rx ry ⟨_, _, rfl, rfl, q _ _ (sameV (.int _))⟩
  · rename_i xs ys
    split at hf
    · rename_i hz
      cases hf
      obtain ⟨a, vs, rfl, ha, ra⟩ := tx.tuple_inv
      obtain ⟨b, ws, rfl, hb, rb⟩ := ty.tuple_inv
      have l1 := ra.length
      have l2 := rb.length
      refine op_catA pins s σ H _ _ v u Q I rx ry ⟨a, b, vs, ws, rfl, rfl, ha, hb, by rw [← l1, ← l2, ← lim_eq]; exact hz, fun e => ?_, fun _ e => ?_, fun _ _ p hp => q _ _ (newT hp (ra.append rb))⟩
      · subst e
        cases ra
        exact q _ _ (sameV (.tup hb rb))
      · subst e
        cases rb
        rw [List.append_nil] at q
        exact q _ _ (sameV (.tup ha ra))
    · cases hf
  · rename_i xs ys
    split at hf
    · rename_i hz
      cases hf
      obtain ⟨a, vs, rfl, ha, ra⟩ := tx.list_inv
      obtain ⟨b, ws, rfl, hb, rb⟩ := ty.list_inv
      have l1 := ra.length
      have l2 := rb.length
      exact cat_lists pins s σ H _ _ v u Q I rx ry ⟨a, b, vs, ws, rfl, rfl, ha, hb, by rw [← l1, ← l2, ← lim_eq]; exact hz, fun p hp => q _ _ (newL hp (ra.append rb))⟩
    · cases hf
  · rename_i a b
    split at hf
    · rename_i hz
      cases hf
      cases tx.str_inv
      cases ty.str_inv
      exact op_add_str pins s σ H _ _ v u Q I rx ry ⟨_, _, rfl, rfl, by rw [← lim_eq]; exact hz, q _ _ (sameV (.str _))⟩
    · cases hf
  · cases hf
    cases tx.int_inv
    cases ty.int_inv
    exact op_sub pins s σ H _ _ v u Q I rx ry ⟨_, _, rfl, rfl, q _ _ (sameV (.int _))⟩
  · split at hf
    · rename_i hz
      cases hf
      cases tx.int_inv
      cases ty.int_inv
      exact op_mul pins s σ H _ _ v u Q I rx ry ⟨_, _, rfl, rfl, hz.symm, q _ _ (sameV (.int _))⟩
    · cases hf
  · rename_i xs k
    split at hf
    · rename_i hz
      cases hf
      obtain ⟨a, vs, rfl, ha, ra⟩ := tx.tuple_inv
      cases ty.int_inv
      have hl := ra.length
      refine op_repA pins s σ H _ _ v u Q I rx ry ⟨a, k, vs, rfl, rfl, ha, fun e => hz.1 ?_, hz.2.2.1, hz.2.2.2, by rw [← hl]; exact hz.2.1, fun e => ?_, fun _ p hp => q _ _ (newT hp (ra.rep k.toNat))⟩
      · rw [e] at hl
        exact List.eq_nil_of_length_eq_zero hl
      · subst e
        have e1 : (List.replicate (1 : Int).toNat xs).flatten = xs := by simp
        rw [e1] at q
        exact q _ _ (sameV (.tup ha ra))
    · cases hf
  · split at hf
    · rename_i hz
      cases hf
      cases tx.int_inv
      cases ty.int_inv
      exact op_fdiv pins s σ H _ _ v u Q I rx ry ⟨_, _, rfl, rfl, hz, q _ _ (sameV (.int _))⟩
    · cases hf
  · split at hf
    · rename_i hz
      cases hf
      cases tx.int_inv
      cases ty.int_inv
      exact op_mod pins s σ H _ _ v u Q I rx ry ⟨_, _, rfl, rfl, hz, q _ _ (sameV (.int _))⟩
    · cases hf
  · cases hf

theorem iadd_ok : OpR X (inplaceOp .Add) (rOf X.K fun x y => match x, y with | .int i, .int j => some (.v (.int (i + j))) | _, _ => none) := by
  rintro pins s σ H x y v u Q I rx ry ⟨L, dx, dy, r, tx, ty, hf, q⟩
  dsimp only at hf
  split at hf
  · cases hf
    cases tx.int_inv
    cases ty.int_inv
    exact iop_add pins s σ H _ _ v u Q I rx ry ⟨_, _, rfl, rfl, q _ _ (sameV (.int _))⟩
  · cases hf

/-! ### comparisons -/
mutual
theorem Rep.dp {K : PySem.W.Frag} {L : List Addr} {H : Hp} : ∀ {d : PyData} {v : V}, Rep K L H d v → d.canLay0 = true → Dp K H v d
  | _, _, .non, _ => .non
  | _, _, .bl b, _ => .bl b
  | _, _, .int i, _ => .int i
  | _, _, .str x, _ => .str x
  | .list _, _, .lst _ h r, c => .lst (.inl h) (RepAll.dp r (by simpa only [PyData.canLay0] using c))
  | .list _, _, .lstK h r, c => .lst (LsK.sq (.inr h)) (RepAll.dp r (by simpa only [PyData.canLay0] using c))
  | .tuple _, _, .tup h r, c => .tup h (RepAll.dp r (by simpa only [PyData.canLay0] using c))
  | .dict _, _, .dct _ _ _, c => by simp [PyData.canLay0] at c
theorem RepAll.dp {K : PySem.W.Frag} {L : List Addr} {H : Hp} : ∀ {ds : List PyData} {vs : List V}, RepAll K L H ds vs → PyData.canLayAll0 ds = true → DpAll K H vs ds
  | _, _, .nil, _ => .nil
  | _ :: _, _, .cons r rs, c => by
    have c' := (Bool.and_eq_true_iff.mp (by simpa only [PyData.canLayAll0] using c))
    exact .cons (Rep.dp r c'.1) (RepAll.dp rs c'.2)
end
theorem Top.dp {K : PySem.W.Frag} {L : List Addr} {H : Hp} {d : PyData} {v : V} (t : Top K L H d v) (c : d.canLay0 = true) : Dp K H v d := by
  cases t with
  | of r => exact r.dp c
  | lst h r => exact .lst h.sq (RepAll.dp r (by simpa only [PyData.canLay0] using c))
  | dct h r => simp [PyData.canLay0] at c
def rCmp (K : PySem.W.Frag) (op : Co) : R2 := fun x y H Q => ∃ L dx dy b, Top K L H dx x ∧ Top K L H dy y ∧ cmpD op dx dy = some b ∧ Q (.bl b) H
theorem Rep.flatV {K : PySem.W.Frag} {L : List Addr} {H : Hp} {d : PyData} {v : V} (r : Rep K L H d v) (f : flat d = true) : L2.flatV v = true := by
  cases r <;> first | rfl | cases f
theorem RepAll.flatV {K : PySem.W.Frag} {L : List Addr} {H : Hp} : ∀ {ds : List PyData} {vs : List V}, RepAll K L H ds vs → ds.all flat = true → vs.all L2.flatV = true
  | _, _, .nil, _ => rfl
  | _ :: _, _, .cons r rs, c => by
    rw [List.all_cons, Bool.and_eq_true] at c ⊢
    exact ⟨r.flatV c.1, RepAll.flatV rs c.2⟩
theorem Rep.eqV {K : PySem.W.Frag} {L : List Addr} {H : Hp} {d e : PyData} {v w : V} (r : Rep K L H d v) (q : Rep K L H e w) (f : flat d = true) (g : flat e = true) : L2.eqV v w = PyData.eqv d e := by
  cases r <;> first | (cases f; done) | skip
  all_goals cases q <;> first | (cases g; done) | (simp only [L2.eqV, PyData.eqv])
theorem inV_eq {K : PySem.W.Frag} {L : List Addr} {H : Hp} {d : PyData} {v : V} (r : Rep K L H d v) (f : flat d = true) : ∀ {ds : List PyData} {vs : List V}, RepAll K L H ds vs → ds.all flat = true → L2.inV v vs = inD d ds
  | _, _, .nil, _ => rfl
  | _ :: _, _, .cons q rs, c => by
    rw [List.all_cons, Bool.and_eq_true] at c
    have ih := inV_eq r f rs c.2
    unfold L2.inV inD at ih ⊢
    rw [List.any_cons, List.any_cons, q.eqV r c.1 f, ih]
theorem RepKs.any {K : PySem.W.Frag} {L : List Addr} {H : Hp} (k : Key) : ∀ {ps : List (PyData × PyData)} {kvs : List (Key × V)}, RepKs K L H ps kvs → (ps.any fun p => decide (dK p.1 = some k)) = (valV kvs k).isSome
  | _, _, .nil => rfl
  | _, _, .cons (k := q) r rs => by
    have e : dK (kD q) = some q := by cases q <;> rfl
    rw [List.any_cons, RepKs.any k rs]
    by_cases h : q = k
    · subst h; rw [valV_pos (p := (q, _)) rfl]; simp [e]
    · rw [valV_neg (p := (q, _)) h]; simp [e, h]
theorem Top.key {K : PySem.W.Frag} {L : List Addr} {H : Hp} {d : PyData} {v : V} {k : Key} (t : Top K L H d v) (h : dK d = some k) : v = kV k := by
  cases d <;> first | cases h | skip
  · cases t.int_inv; rfl
  · cases t.str_inv; rfl
theorem Rep.key {K : PySem.W.Frag} {L : List Addr} {H : Hp} {d : PyData} {v : V} {k : Key} (t : Rep K L H d v) (h : dK d = some k) : v = kV k := Top.key (.of t) h

theorem eq_data {X : Cx} {pins : List (Addr × Obj)} {s : Shared} {σ : St} {H : Hp} {x y : V} {v u : Value} {d e : PyData} {Q : VK} (hu : X.A.units + 150 < cLine) (I : Inv X pins σ H s) (rx : RelV x v) (ry : RelV y u) (hd : Dp X.K H x d) (he : Dp X.K H y e) (ok : eqOk d e = true) (neg : Bool)
    (q : Q (.bl (if neg then !PyData.eqv d e else PyData.eqv d e)) H) : wpAny (model X.prog X.w) X.A (compareOp (if neg then .NotEq else .Eq) v u) (EP X pins σ Q) X.xe s := by
  obtain ⟨as, r1⟩ := Dp.reads I d x v hd rx
  obtain ⟨bs, r2⟩ := Dp.reads I e y u he ry
  unfold eqOk at ok
  simp only [Bool.and_eq_true, decide_eq_true_eq] at ok
  obtain ⟨⟨c1, c2⟩, c3⟩ := ok
  cases neg with
  | false => exact SeqAt.compareEq_reads r1 r2 c1 c2 (by omega) ⟨.bl _, H, I, rfl, q⟩
  | true => exact SeqAt.compareNe_reads r1 r2 c1 c2 (by omega) ⟨.bl _, H, I, rfl, q⟩

open PySem.MeetsSeq in
theorem tup_declines_dct (l b : Addr) (items : Array Value) (n : Nat) (dd : Option Addr) (sl : Array (Option Value)) (o2 : Obj) :
    Meets (Builtin.«tuple.__eq__» ⟨[.ref l, .ref b], []⟩) (fun _ R s => s.heap.get? l = some { cls := .type "tuple", dict := dd, data := .seq items n, slots := sl } ∧ s.heap.get? b = some o2 ∧ o2.cls = .type "dict" ∧ R (.ok (.ret .notImplemented)) s) :=
  .of_wp fun prog w A R s h => by
    obtain ⟨cls2, dd2, data2, sl2⟩ := o2
    obtain ⟨hp, g, d, tk, os⟩ := s; obtain ⟨hl, hb, hc, h⟩ := h
    simp only at hc
    subst hc
    have f1 := F.sub_dict_tuple
    wp_walk using AutoSeq1.wpAny_loadPart' hl, wpAny_load hb; exact ⟨_, rfl, h⟩
open PySem.MeetsSeq in
theorem dct_declines_tup (l b : Addr) (items : Array Value) (n : Nat) (dd : Option Addr) (sl : Array (Option Value)) (o2 : Obj) :
    Meets (Builtin.«dict.__eq__» ⟨[.ref b, .ref l], []⟩) (fun _ R s => s.heap.get? l = some { cls := .type "tuple", dict := dd, data := .seq items n, slots := sl } ∧ s.heap.get? b = some o2 ∧ o2.cls = .type "dict" ∧ R (.ok (.ret .notImplemented)) s) :=
  .of_wp fun prog w A R s h => by
    obtain ⟨cls2, dd2, data2, sl2⟩ := o2
    obtain ⟨hp, g, d, tk, os⟩ := s; obtain ⟨hl, hb, hc, h⟩ := h
    simp only at hc
    subst hc
    have f1 := F.sub_tuple_dict
    wp_walk using AutoSeq1.wpAny_loadPart' hl, wpAny_load hb; exact ⟨_, rfl, h⟩
open PySem.SeqAt PySem.MeetsSeq in
theorem rc_dct_tup {A : Around} {s : Shared} {a b : Addr} {o : Obj} {items : Array Value} (ha : s.heap.get? a = some o) (hc : o.cls = .type "dict") (hb : s.heap.IsTuple b items) (hu : A.units < cLine) : RcAt A s (.ref a) (.ref b) false := fun prog w E Q h => by
  obtain ⟨⟨cls2, dd2, data2, sl2⟩, ho2, hc2, n2, hd2⟩ := id hb
  simp only at hc2 hd2
  subst hc2 hd2
  have hne : a ≠ b := fun e => by
    subst e
    rw [ha] at ho2
    cases ho2
    exact absurd hc (by simp)
  exact (rc_eq_decline_or (k := false) ⟨_, ha, hc⟩ ⟨_, ho2, rfl⟩ (by decide) F.sub_tuple_dict F.slot_dict_eq F.slot_tuple_eq_refl
    (fun _ hq => call_meets F.slot_dict_eq ⟨_, ha, hc⟩ F.entry_dict_eq (F.args_dict_eq_2 _ _) (dct_declines_tup b a items n2 dd2 sl2 o) ⟨ho2, ha, hc, hq⟩)
    (fun _ hq => call_meets F.slot_tuple_eq_refl ⟨_, ho2, rfl⟩ F.entry_tuple_eq (F.args_tuple_eq_2 _ _) (tup_declines_dct b a items n2 dd2 sl2 o) ⟨ho2, ha, hc, hq⟩)
    (fun _ hq => wpAny_isSame_ref_other hne ha ho2 (by rw [hc]; simp) hq) (.inr hu) h)
theorem cmp_ok (hu : X.A.units + 150 < cLine) (op : Co) : OpR X (compareOp op.py) (rCmp X.K op) := by
  rintro pins s σ H x y v u Q I rx ry ⟨L, dx, dy, b, tx, ty, hf, q⟩
  unfold cmpD at hf
  split at hf
  · cases hf; cases tx.int_inv; cases ty.int_inv
    exact op_lt pins s σ H _ _ v u Q I rx ry ⟨_, _, rfl, rfl, q⟩
  · rename_i xs ys
    obtain ⟨a, vs, rfl, ha, ra⟩ := tx.tuple_inv
    obtain ⟨c, ws, rfl, hc, rc⟩ := ty.tuple_inv
    cases h1 : intsD xs with
    | none => rw [h1] at hf; cases hf
    | some ns =>
      cases h2 : intsD ys with
      | none => rw [h1, h2] at hf; cases hf
      | some ms =>
        rw [h1, h2] at hf; cases hf
        obtain ⟨rfl, _⟩ := ra.ints h1
        obtain ⟨rfl, _⟩ := rc.ints h2
        exact op_ltT (by omega) pins s σ H _ _ v u Q I rx ry ⟨a, c, ns, ms, rfl, rfl, ha, hc, q⟩
  · cases hf; cases tx.int_inv; cases ty.int_inv
    exact op_le pins s σ H _ _ v u Q I rx ry ⟨_, _, rfl, rfl, q⟩
  · cases hf; cases tx.int_inv; cases ty.int_inv
    exact op_gt pins s σ H _ _ v u Q I rx ry ⟨_, _, rfl, rfl, q⟩
  · cases hf; cases tx.int_inv; cases ty.int_inv
    exact op_ge pins s σ H _ _ v u Q I rx ry ⟨_, _, rfl, rfl, q⟩
  · split at hf
    · rename_i ok
      cases hf
      have c := ok
      unfold eqOk at c
      simp only [Bool.and_eq_true, decide_eq_true_eq] at c
      exact eq_data hu I rx ry (tx.dp c.1.1) (ty.dp c.1.2) ok false q
    · split at hf
      · rename_i dt
        cases hf
        cases dx <;> first | cases dt | skip
        cases dy <;> first | cases dt | skip
        rename_i ks xs
        obtain ⟨a, kvs, rfl, ha, rk⟩ := tx.dict_inv
        obtain ⟨bs, r2⟩ := Dp.reads I _ y u (ty.dp dt) ry
        obtain ⟨_, _, vs, _, o, es, ep, ho, hx, _⟩ := dk_rd I.hok (.inl ha)
        cases rx
        cases r2 with
        | tuple k1 k2 k3 k4 => exact rc_dct_tup ho hx.1 ⟨_, k1, k2, _, k3⟩ (by omega) X.prog X.w _ _ ⟨.bl false, H, I, rfl, q⟩
      · cases hf
  · split at hf
    · rename_i ok
      cases hf
      have c := ok
      unfold eqOk at c
      simp only [Bool.and_eq_true, decide_eq_true_eq] at c
      exact eq_data hu I rx ry (tx.dp c.1.1) (ty.dp c.1.2) ok true q
    · cases hf
  · rename_i ks
    obtain ⟨a, kvs, rfl, ha, rk⟩ := ty.dict_inv
    cases hk : dK dx with
    | none => rw [hk] at hf; cases hf
    | some k =>
      rw [hk] at hf
      have hf : (ks.any fun p => decide (dK p.1 = some k)) = b := Option.some.inj hf
      cases tx.key hk
      cases ry
      refine d_in (by omega) I (DGet.k ha) rx fun s' I' => ⟨.bl b, H, I', ?_, q⟩
      rw [← hf, rk.any k]; rfl
  · rename_i ks
    obtain ⟨a, kvs, rfl, ha, rk⟩ := ty.dict_inv
    cases hk : dK dx with
    | none => rw [hk] at hf; cases hf
    | some k =>
      rw [hk] at hf
      have hf : (!ks.any fun p => decide (dK p.1 = some k)) = b := Option.some.inj hf
      cases tx.key hk
      cases ry
      refine d_notIn (by omega) I (DGet.k ha) rx fun s' I' => ⟨.bl b, H, I', ?_, q⟩
      rw [← hf, rk.any k]; rfl
  · rename_i ys
    split at hf
    · rename_i fl
      cases hf
      rw [Bool.and_eq_true] at fl
      obtain ⟨a, vs, rfl, ha, ra⟩ := ty.list_inv
      have rx' : Rep X.K L H dx x := by
        cases tx with
        | of r => exact r
        | lst _ _ => cases fl.1
        | dct _ _ => cases fl.1
      exact op_in_seq pins s σ H _ _ v u Q I rx ry ⟨a, vs, rfl, .inl ha.sq, rx'.flatV fl.1, ra.flatV fl.2, by rw [if_neg (by decide), inV_eq rx' fl.1 ra fl.2]; exact q⟩
    · cases hf
  · rename_i ys
    split at hf
    · rename_i fl
      cases hf
      rw [Bool.and_eq_true] at fl
      obtain ⟨a, vs, rfl, ha, ra⟩ := ty.tuple_inv
      have rx' : Rep X.K L H dx x := by
        cases tx with
        | of r => exact r
        | lst _ _ => cases fl.1
        | dct _ _ => cases fl.1
      exact op_in_seq pins s σ H _ _ v u Q I rx ry ⟨a, vs, rfl, .inr ha, rx'.flatV fl.1, ra.flatV fl.2, by rw [if_neg (by decide), inV_eq rx' fl.1 ra fl.2]; exact q⟩
    · cases hf
  · rename_i ys
    split at hf
    · rename_i fl
      cases hf
      rw [Bool.and_eq_true] at fl
      obtain ⟨a, vs, rfl, ha, ra⟩ := ty.list_inv
      have rx' : Rep X.K L H dx x := by
        cases tx with
        | of r => exact r
        | lst _ _ => cases fl.1
        | dct _ _ => cases fl.1
      exact op_notIn_seq pins s σ H _ _ v u Q I rx ry ⟨a, vs, rfl, .inl ha.sq, rx'.flatV fl.1, ra.flatV fl.2, by rw [if_pos rfl, inV_eq rx' fl.1 ra fl.2]; exact q⟩
    · cases hf
  · rename_i ys
    split at hf
    · rename_i fl
      cases hf
      rw [Bool.and_eq_true] at fl
      obtain ⟨a, vs, rfl, ha, ra⟩ := ty.tuple_inv
      have rx' : Rep X.K L H dx x := by
        cases tx with
        | of r => exact r
        | lst _ _ => cases fl.1
        | dct _ _ => cases fl.1
      exact op_notIn_seq pins s σ H _ _ v u Q I rx ry ⟨a, vs, rfl, .inr ha, rx'.flatV fl.1, ra.flatV fl.2, by rw [if_pos rfl, inV_eq rx' fl.1 ra fl.2]; exact q⟩
    · cases hf
  · cases hf

/-! ### an item, a part -/
theorem atI_rep {K : PySem.W.Frag} {L : List Addr} {H : Hp} {ds : List PyData} {vs : List V} {i : Int} {d : PyData} (r : RepAll K L H ds vs) (h : atI ds i = some d) : ∃ v, atI vs i = some v ∧ Rep K L H d v := by
  unfold atI at h ⊢
  rw [← r.length]
  cases e : ixN ds.length i with
  | none => rw [e] at h; cases h
  | some j =>
    rw [e] at h
    obtain ⟨v, h1, h2⟩ := r.get (show ds[j]? = some d from h)
    exact ⟨v, h1, h2⟩
theorem RepKs.find {K : PySem.W.Frag} {L : List Addr} {H : Hp} (k : Key) : ∀ {ps : List (PyData × PyData)} {kvs : List (Key × V)} {d : PyData}, RepKs K L H ps kvs → (ps.find? fun p => decide (dK p.1 = some k)).map (·.2) = some d → ∃ v, valV kvs k = some v ∧ Rep K L H d v
  | _, _, _, .nil, h => by cases h
  | _, _, d, .cons (k := q) r rs, h => by
    have e : dK (kD q) = some q := by cases q <;> rfl
    by_cases z : q = k
    · subst z
      rw [List.find?_cons_of_pos (by simp [e])] at h
      have h : _ = d := Option.some.inj h
      subst h
      exact ⟨_, valV_pos (p := (q, _)) rfl, r⟩
    · rw [List.find?_cons_of_neg (by simp [e, z])] at h
      obtain ⟨v, h1, h2⟩ := RepKs.find k rs h
      exact ⟨v, by rw [valV_neg (p := (q, _)) z]; exact h1, h2⟩
def rIdx (K : PySem.W.Frag) : R2 := fun x y H Q => ∃ L dx dy d, Top K L H dx x ∧ Rep K L H dy y ∧ idxD dx dy = some d ∧ ∀ v, Rep K L H d v → Q v H
theorem idx_ok (hu : X.A.units + 150 < cLine) : IxR X (rIdx X.K) := by
  rintro value slice pins s σ H x y v u Q I rx ry ⟨L, dx, dy, d, tx, ty, hf, q⟩ hs
  unfold idxD at hf
  split at hf
  · obtain ⟨a, vs, rfl, ha, ra⟩ := tx.list_inv
    cases ty
    obtain ⟨w, h1, h2⟩ := atI_rep ra hf
    exact ix_list value slice pins s σ H _ _ v u Q I rx ry ⟨a, vs, _, w, rfl, rfl, ha.sq, h1, q w h2⟩ hs
  · obtain ⟨a, vs, rfl, ha, ra⟩ := tx.tuple_inv
    cases ty
    obtain ⟨w, h1, h2⟩ := atI_rep ra hf
    exact ix_tup value slice pins s σ H _ _ v u Q I rx ry ⟨a, vs, _, w, rfl, rfl, ha, h1, q w h2⟩ hs
  · rename_i ks
    obtain ⟨a, kvs, rfl, ha, rk⟩ := tx.dict_inv
    cases hk : dK dy with
    | none => rw [hk] at hf; cases hf
    | some k =>
      rw [hk] at hf
      obtain ⟨w, h1, h2⟩ := rk.find k hf
      cases ty.key hk
      cases rx
      have g : DGet H a (kV k) (some w) := by rw [← h1]; exact DGet.k ha
      exact PyProof.Rows.tail_any (dict_typeIs I g) PySem.F.slot_dict_getitem.lookup (d_getItem (by omega) I g ry fun w' s3 I3 rw' => ⟨w, H, I3, rw', q w h2⟩) hs
  · cases hf
theorem cut_rep {K : PySem.W.Frag} {L : List Addr} {H : Hp} {ds : List PyData} {vs : List V} (r : RepAll K L H ds vs) (lo hi : Option Int) : RepAll K L H (cutG ds lo hi) (cutV vs lo hi) := by
  unfold cutG cutV
  rw [r.length]
  exact (r.drop _).take _
def rSlc (K : PySem.W.Frag) : V → Option Int → Option Int → Hp → VK → Prop := fun x lo hi H Q => ∃ L dx r, Top K L H dx x ∧ slcD dx lo hi = some r ∧ ∀ v H', NewV K L H H' v r → Q v H'

theorem cut_all {α : Type} (xs : List α) (lo hi : Option Int) (h : HT.sIx xs.length 0 lo = 0 ∧ HT.sIx xs.length xs.length hi = xs.length) : cutG xs lo hi = xs := by
  unfold cutG
  rw [h.1, h.2, List.drop_zero, Nat.sub_zero, List.take_length]
theorem slc_ok : SlR X (rSlc X.K) := by
  rintro pins s σ H x v vl vu lo hi sl Q I rx hs pl pu ⟨L, dx, r, tx, hf, q⟩
  unfold slcD at hf
  split at hf
  · rename_i ds
    cases hf
    obtain ⟨a, vs, rfl, ha, ra⟩ := tx.tuple_inv
    have l := ra.length
    refine sl_tupA pins s σ H _ v vl vu lo hi sl Q I rx hs pl pu ⟨a, vs, rfl, ha, fun w => ?_, fun _ p hp => q _ _ (newT hp (cut_rep ra lo hi))⟩
    have e := cut_all ds lo hi (by rw [l]; exact w)
    rw [e] at q
    exact q _ _ (sameV (.tup ha ra))
  · cases hf
    obtain ⟨a, vs, rfl, ha, ra⟩ := tx.list_inv
    exact sl_list pins s σ H _ v vl vu lo hi sl Q I rx hs pl pu ⟨a, vs, rfl, ha.sq, fun p hp => q _ _ (newL hp (cut_rep ra lo hi))⟩
  · split at hf
    · rename_i hz
      cases hf
      cases tx.str_inv
      exact sl_str pins s σ H _ v vl vu lo hi sl Q I rx hs pl pu ⟨_, rfl, by rw [← lim_eq]; exact hz, q _ _ (sameV (.str _))⟩
    · cases hf
  · cases hf

/-! ### isinstance -/
def Ty.nm : Ty → String
  | .int => "int"
  | .bool => "bool"
  | .tuple => "tuple"
  | .list => "list"
  | .str => "str"
  | .dict => "dict"
def tyN : PyData → String
  | .none => "NoneType"
  | .bool _ => "bool"
  | .int _ => "int"
  | .str _ => "str"
  | .list _ => "list"
  | .tuple _ => "tuple"
  | .dict _ => "dict"
theorem Top.ty {K : PySem.W.Frag} {L : List Addr} {H : Hp} {d : PyData} {v : V} (t : Top K L H d v) : TyX K H v (.type (tyN d)) := by
  have lst : ∀ {a xs}, LsK K H a xs → TyX K H (.ref a) (.type "list") := fun h => by
    rcases h with (h | ⟨o, h⟩) | ⟨_, _, h, _⟩
    · exact .base (.lst h)
    · exact .base (.frz h)
    · exact .kList h rfl
  cases t with
  | of r =>
    cases r with
    | non => exact .base .non
    | bl b => exact .base (.bl b)
    | int i => exact .base (.int i)
    | str x => exact .base (.str x)
    | lst n h r => exact lst (.inl h)
    | lstK h r => exact lst (.inr h)
    | tup h r =>
      rcases h with (h | ⟨o, h⟩) | ⟨o, its, n, hk, hc, _⟩
      · exact .base (.tup h)
      · exact .fTuple h
      · exact .kTuple hk hc
    | dct n h r => exact .base (.dK h)
  | lst h r => exact lst h
  | dct h r => exact .base (.dK h)
theorem isi_kit (K : PySem.W.Frag) (t : Ty) (d : PyData) : PySem.W.kitOne K (.type (tyN d)) (.type t.nm) = some (isiD t d) := by
  cases t <;> cases d <;> simp only [tyN, Ty.nm, isiD] <;> exact kit_ty (by decide +kernel)

/-! ### the built-in functions -/
def rPrm (K : PySem.W.Frag) (p : Pm) : List V → Hp → VK → Prop := fun xs H Q => ∃ L ds r, Paired (Top K L H) ds xs ∧ primD p ds = some r ∧ ∀ v H', NewV K L H H' v r → Q v H'
theorem tops1 {K : PySem.W.Frag} {L : List Addr} {H : Hp} {d : PyData} {xs : List V} (t : Paired (Top K L H) [d] xs) : ∃ x, xs = [x] ∧ Top K L H d x := by
  cases t with
  | cons h t => cases t; exact ⟨_, rfl, h⟩
theorem tops2 {K : PySem.W.Frag} {L : List Addr} {H : Hp} {d e : PyData} {xs : List V} (t : Paired (Top K L H) [d, e] xs) : ∃ x y, xs = [x, y] ∧ Top K L H d x ∧ Top K L H e y := by
  cases t with
  | cons h t => cases t with
    | cons h2 t => cases t; exact ⟨_, _, rfl, h, h2⟩
theorem RepKs.len {K : PySem.W.Frag} {L : List Addr} {H : Hp} : ∀ {ps : List (PyData × PyData)} {kvs : List (Key × V)}, RepKs K L H ps kvs → ps.length = kvs.length
  | _, _, .nil => rfl
  | _, _, .cons _ rs => congrArg (· + 1) (RepKs.len rs)
theorem RepKs.keys {K : PySem.W.Frag} {L : List Addr} {H : Hp} : ∀ {ps : List (PyData × PyData)} {kvs : List (Key × V)}, RepKs K L H ps kvs → RepAll K L H (ps.map (·.1)) (kvs.map fun kv => kV kv.1)
  | _, _, .nil => .nil
  | _, _, .cons (k := k) _ rs => by
    refine .cons ?_ (RepKs.keys rs)
    cases k with
    | inl i => exact .int i
    | inr x => exact .str x
theorem len_ok : CallR X (.builtin "len") (rPrm X.K .len) := by
  rintro pins s σ H xs us Q I rs ⟨L, ds, r, t, hf, q⟩
  unfold primD at hf
  split at hf <;> first | (cases hf; done) | skip
  all_goals try (rename_i h; cases h)
  · cases hf
    obtain ⟨x, rfl, t1⟩ := tops1 t
    obtain ⟨a, vs, rfl, ha, ra⟩ := t1.list_inv
    have l := ra.length
    exact call_len_seq pins s σ H _ us Q I rs ⟨a, vs, rfl, .inl ha.sq, by rw [← l]; exact q _ _ (sameV (.int _))⟩
  · cases hf
    obtain ⟨x, rfl, t1⟩ := tops1 t
    obtain ⟨a, vs, rfl, ha, ra⟩ := t1.tuple_inv
    have l := ra.length
    exact call_len_seq pins s σ H _ us Q I rs ⟨a, vs, rfl, .inr ha, by rw [← l]; exact q _ _ (sameV (.int _))⟩
  · cases hf
    obtain ⟨x, rfl, t1⟩ := tops1 t
    obtain ⟨a, kvs, rfl, ha, rk⟩ := t1.dict_inv
    have l := rk.len
    exact call_lenD pins s σ H _ us Q I rs ⟨a, kvs, rfl, ha, by rw [← l]; exact q _ _ (sameV (.int _))⟩
  · split at hf
    · rename_i hz
      cases hf
      obtain ⟨x, rfl, t1⟩ := tops1 t
      cases t1.str_inv
      exact call_len_str pins s σ H _ us Q I rs ⟨_, rfl, by rw [← lim_eq]; exact hz, q _ _ (sameV (.int _))⟩
    · cases hf

theorem tuple_ok : CallR X (.type "tuple") (rPrm X.K .tuple) := by
  rintro pins s σ H xs us Q I rs ⟨L, ds, r, t, hf, q⟩
  unfold primD at hf
  split at hf <;> first | (cases hf; done) | skip
  all_goals try (rename_i h; cases h)
  · cases hf
    obtain ⟨x, rfl, t1⟩ := tops1 t
    obtain ⟨a, vs, rfl, ha, ra⟩ := t1.list_inv
    exact call_tuple_of pins s σ H _ us Q I rs ⟨a, vs, rfl, .inl ⟨ha.sq, fun p hp => q _ _ (newT hp ra)⟩⟩
  · cases hf
    obtain ⟨x, rfl, t1⟩ := tops1 t
    obtain ⟨a, vs, rfl, ha, ra⟩ := t1.tuple_inv
    exact call_tuple_of pins s σ H _ us Q I rs ⟨a, vs, rfl, .inr ⟨ha, q _ _ (sameV (.tup ha ra))⟩⟩
theorem list_ok (hc : X.calm = true) : CallR X (.type "list") (rPrm X.K .list) := by
  rintro pins s σ H xs us Q I rs ⟨L, ds, r, t, hf, q⟩
  unfold primD at hf
  split at hf <;> first | (cases hf; done) | skip
  all_goals try (rename_i h; cases h)
  · cases hf
    obtain ⟨x, rfl, t1⟩ := tops1 t
    obtain ⟨a, vs, rfl, ha, ra⟩ := t1.list_inv
    exact call_list_of pins s σ H _ us Q I rs ⟨a, vs, rfl, .inl ha.sq, fun p hp => q _ _ (newL hp ra)⟩
  · cases hf
    obtain ⟨x, rfl, t1⟩ := tops1 t
    obtain ⟨a, vs, rfl, ha, ra⟩ := t1.tuple_inv
    exact call_list_of pins s σ H _ us Q I rs ⟨a, vs, rfl, .inr ha, fun p hp => q _ _ (newL hp ra)⟩
  · cases hf
    obtain ⟨x, rfl, t1⟩ := tops1 t
    obtain ⟨a, kvs, rfl, ha, rk⟩ := t1.dict_inv
    exact call_listD hc pins s σ H _ us Q I rs ⟨a, kvs, rfl, .inl ha, fun p hp => q _ _ (newL hp rk.keys)⟩
theorem mapO {α β : Type} {o : Option α} {f : α → β} {b : β} (h : o.map f = some b) : ∃ a, o = some a ∧ f a = b := by
  cases o with
  | none => cases h
  | some a => exact ⟨a, rfl, Option.some.inj h⟩
theorem all_ok (hc : X.calm = true) : CallR X (.builtin "all") (rPrm X.K .all) := by
  rintro pins s σ H xs us Q I rs ⟨L, ds, r, t, hf, q⟩
  unfold primD at hf
  split at hf <;> first | (cases hf; done) | skip
  all_goals try (rename_i h; cases h)
  obtain ⟨bs, h1, h2⟩ := mapO hf
  subst h2
  obtain ⟨x, rfl, t1⟩ := tops1 t
  obtain ⟨a, vs, rfl, ha, ra⟩ := t1.list_inv
  obtain ⟨e, _⟩ := ra.bools h1
  subst e
  exact cr_all hc pins s σ H _ us Q I rs ⟨a, bs, rfl, ha.sq, q _ _ (sameV (.bl _))⟩
theorem any_ok (hc : X.calm = true) : CallR X (.builtin "any") (rPrm X.K .any) := by
  rintro pins s σ H xs us Q I rs ⟨L, ds, r, t, hf, q⟩
  unfold primD at hf
  split at hf <;> first | (cases hf; done) | skip
  all_goals try (rename_i h; cases h)
  obtain ⟨bs, h1, h2⟩ := mapO hf
  subst h2
  obtain ⟨x, rfl, t1⟩ := tops1 t
  obtain ⟨a, vs, rfl, ha, ra⟩ := t1.list_inv
  obtain ⟨e, _⟩ := ra.bools h1
  subst e
  exact cr_any hc pins s σ H _ us Q I rs ⟨a, bs, rfl, ha.sq, q _ _ (sameV (.bl _))⟩
theorem sum_ok (hc : X.calm = true) : CallR X (.builtin "sum") (rPrm X.K .sum) := by
  rintro pins s σ H xs us Q I rs ⟨L, ds, r, t, hf, q⟩
  unfold primD at hf
  split at hf <;> first | (cases hf; done) | skip
  all_goals try (rename_i h; cases h)
  obtain ⟨ns, h1, h2⟩ := mapO hf
  subst h2
  obtain ⟨x, rfl, t1⟩ := tops1 t
  obtain ⟨a, vs, rfl, ha, ra⟩ := t1.list_inv
  obtain ⟨e, _⟩ := ra.ints h1
  subst e
  exact cr_sum hc pins s σ H _ us Q I rs ⟨a, ns, rfl, ha.sq, q _ _ (sameV (.int _))⟩
theorem foldl_min (r : List Int) : ∀ x : Int, (r.foldl min x = x ∨ r.foldl min x ∈ r) ∧ r.foldl min x ≤ x ∧ ∀ y ∈ r, r.foldl min x ≤ y := by
  induction r with
  | nil => intro x; exact ⟨.inl rfl, Int.le_refl _, fun _ h => by cases h⟩
  | cons z r ih =>
    intro x
    obtain ⟨h1, h2, h3⟩ := ih (min x z)
    rw [List.foldl_cons]
    refine ⟨?_, by omega, fun y hy => ?_⟩
    · rcases h1 with h1 | h1
      · by_cases c : x ≤ z
        · exact .inl (by rw [h1]; omega)
        · exact .inr (by rw [h1]; exact List.mem_cons.mpr (.inl (by omega)))
      · exact .inr (List.mem_cons_of_mem _ h1)
    · rcases List.mem_cons.mp hy with e | hy
      · omega
      · exact h3 y hy
theorem foldl_max (r : List Int) : ∀ x : Int, (r.foldl max x = x ∨ r.foldl max x ∈ r) ∧ x ≤ r.foldl max x ∧ ∀ y ∈ r, y ≤ r.foldl max x := by
  induction r with
  | nil => intro x; exact ⟨.inl rfl, Int.le_refl _, fun _ h => by cases h⟩
  | cons z r ih =>
    intro x
    obtain ⟨h1, h2, h3⟩ := ih (max x z)
    rw [List.foldl_cons]
    refine ⟨?_, by omega, fun y hy => ?_⟩
    · rcases h1 with h1 | h1
      · by_cases c : z ≤ x
        · exact .inl (by rw [h1]; omega)
        · exact .inr (by rw [h1]; exact List.mem_cons.mpr (.inl (by omega)))
      · exact .inr (List.mem_cons_of_mem _ h1)
    · rcases List.mem_cons.mp hy with e | hy
      · omega
      · exact h3 y hy
theorem minL_spec {ns : List Int} {m : Int} (h : minL ns = some m) : m ∈ ns ∧ ∀ y ∈ ns, m ≤ y := by
  cases ns with
  | nil => cases h
  | cons x r =>
    have h : r.foldl min x = m := Option.some.inj h
    obtain ⟨h1, h2, h3⟩ := foldl_min r x
    rw [h] at h1 h2 h3
    refine ⟨?_, fun y hy => ?_⟩
    · rcases h1 with h1 | h1
      · exact List.mem_cons.mpr (.inl h1)
      · exact List.mem_cons_of_mem _ h1
    · rcases List.mem_cons.mp hy with e | hy
      · omega
      · exact h3 y hy
theorem maxL_spec {ns : List Int} {m : Int} (h : maxL ns = some m) : m ∈ ns ∧ ∀ y ∈ ns, y ≤ m := by
  cases ns with
  | nil => cases h
  | cons x r =>
    have h : r.foldl max x = m := Option.some.inj h
    obtain ⟨h1, h2, h3⟩ := foldl_max r x
    rw [h] at h1 h2 h3
    refine ⟨?_, fun y hy => ?_⟩
    · rcases h1 with h1 | h1
      · exact List.mem_cons.mpr (.inl h1)
      · exact List.mem_cons_of_mem _ h1
    · rcases List.mem_cons.mp hy with e | hy
      · omega
      · exact h3 y hy
theorem min_ok (hc : X.calm = true) : CallR X (.builtin "min") (rPrm X.K .min) := by
  rintro pins s σ H xs us Q I rs ⟨L, ds, r, t, hf, q⟩
  unfold primD at hf
  split at hf <;> first | (cases hf; done) | skip
  all_goals try (rename_i h; cases h)
  obtain ⟨m, h1, h2⟩ := mapO hf
  subst h2
  obtain ⟨ns, h3, h4⟩ := Option.bind_eq_some_iff.mp h1
  obtain ⟨x, rfl, t1⟩ := tops1 t
  obtain ⟨a, vs, rfl, ha, ra⟩ := t1.list_inv
  obtain ⟨e, _⟩ := ra.ints h3
  subst e
  obtain ⟨s1, s2⟩ := minL_spec h4
  refine cr_min hc pins s σ H _ us Q I rs ⟨a, ns, rfl, ha.sq, List.length_pos_of_mem s1, fun m' p1 p2 => ?_⟩
  have e1 := p2 m s1
  have e2 := s2 m' p1
  have e : m' = m := by omega
  subst e
  exact q _ _ (sameV (.int _))
theorem max_ok (hc : X.calm = true) : CallR X (.builtin "max") (rPrm X.K .max) := by
  rintro pins s σ H xs us Q I rs ⟨L, ds, r, t, hf, q⟩
  unfold primD at hf
  split at hf <;> first | (cases hf; done) | skip
  all_goals try (rename_i h; cases h)
  obtain ⟨m, h1, h2⟩ := mapO hf
  subst h2
  obtain ⟨ns, h3, h4⟩ := Option.bind_eq_some_iff.mp h1
  obtain ⟨x, rfl, t1⟩ := tops1 t
  obtain ⟨a, vs, rfl, ha, ra⟩ := t1.list_inv
  obtain ⟨e, _⟩ := ra.ints h3
  subst e
  obtain ⟨s1, s2⟩ := maxL_spec h4
  refine cr_max hc pins s σ H _ us Q I rs ⟨a, ns, rfl, ha.sq, List.length_pos_of_mem s1, fun m' p1 p2 => ?_⟩
  have e1 := p2 m s1
  have e2 := s2 m' p1
  have e : m' = m := by omega
  subst e
  exact q _ _ (sameV (.int _))
theorem min2_ok (hc : X.calm = true) : CallR X (.builtin "min") (rPrm X.K .min2) := by
  rintro pins s σ H xs us Q I rs ⟨L, ds, r, t, hf, q⟩
  unfold primD at hf
  split at hf <;> first | (cases hf; done) | skip
  all_goals try (rename_i h; cases h)
  cases hf
  obtain ⟨x, y, rfl, t1, t2⟩ := tops2 t
  cases t1.int_inv
  cases t2.int_inv
  exact call_min2 hc pins s σ H _ us Q I rs ⟨_, _, rfl, q _ _ (sameV (.int _))⟩
theorem max2_ok (hc : X.calm = true) : CallR X (.builtin "max") (rPrm X.K .max2) := by
  rintro pins s σ H xs us Q I rs ⟨L, ds, r, t, hf, q⟩
  unfold primD at hf
  split at hf <;> first | (cases hf; done) | skip
  all_goals try (rename_i h; cases h)
  cases hf
  obtain ⟨x, y, rfl, t1, t2⟩ := tops2 t
  cases t1.int_inv
  cases t2.int_inv
  exact call_max2 hc pins s σ H _ us Q I rs ⟨_, _, rfl, q _ _ (sameV (.int _))⟩
theorem insI_perm (x : Int) : ∀ l : List Int, (insI x l).Perm (x :: l)
  | [] => .refl _
  | y :: r => by
    unfold insI
    split
    · exact .refl _
    · exact ((insI_perm x r).cons y).trans (.swap x y r)
theorem sortI_perm : ∀ l : List Int, (sortI l).Perm l
  | [] => .refl _
  | x :: r => (insI_perm x (sortI r)).trans ((sortI_perm r).cons x)
theorem insI_sorted (x : Int) : ∀ l : List Int, l.Pairwise (· ≤ ·) → (insI x l).Pairwise (· ≤ ·)
  | [], _ => by unfold insI; simp
  | y :: r, h => by
    unfold insI
    have h' := List.pairwise_cons.mp h
    split
    · rename_i c
      refine List.pairwise_cons.mpr ⟨fun z hz => ?_, h⟩
      rcases List.mem_cons.mp hz with e | hz
      · omega
      · have := h'.1 z hz; omega
    · rename_i c
      refine List.pairwise_cons.mpr ⟨fun z hz => ?_, insI_sorted x r h'.2⟩
      rcases List.mem_cons.mp ((insI_perm x r).mem_iff.mp hz) with e | hz
      · omega
      · exact h'.1 z hz
theorem sortI_sorted : ∀ l : List Int, (sortI l).Pairwise (· ≤ ·)
  | [] => .nil
  | x :: r => insI_sorted x _ (sortI_sorted r)
theorem sorted_same : ∀ {a b : List Int}, a.Perm b → a.Pairwise (· ≤ ·) → b.Pairwise (· ≤ ·) → a = b := fun h h1 h2 =>
  List.Perm.eq_of_pairwise (fun x y _ _ p q => Int.le_antisymm p q) h1 h2 h
theorem sorted_ok : CallR X (.builtin "sorted") (rPrm X.K .sorted) := by
  rintro pins s σ H xs us Q I rs ⟨L, ds, r, t, hf, q⟩
  unfold primD at hf
  split at hf <;> first | (cases hf; done) | skip
  all_goals try (rename_i h; cases h)
  obtain ⟨ns, h1, h2⟩ := mapO hf
  subst h2
  obtain ⟨x, rfl, t1⟩ := tops1 t
  obtain ⟨a, vs, rfl, ha, ra⟩ := t1.list_inv
  obtain ⟨e, _⟩ := ra.ints h1
  subst e
  refine cr_sortedI pins s σ H _ us Q I rs ⟨a, ns, rfl, ha.sq, fun ns' p p1 p2 hp => ?_⟩
  have e : ns' = sortI ns := sorted_same (p1.trans (sortI_perm ns).symm) p2 (sortI_sorted ns)
  subst e
  exact q _ _ (newL hp (RepAll.of_ints _))
theorem insP_perm (x : Int × Int) : ∀ l : List (Int × Int), (insP x l).Perm (x :: l)
  | [] => .refl _
  | y :: r => by
    unfold insP
    split
    · exact .refl _
    · exact ((insP_perm x r).cons y).trans (.swap x y r)
theorem sortP_perm : ∀ l : List (Int × Int), (sortP l).Perm l
  | [] => .refl _
  | x :: r => (insP_perm x (sortP r)).trans ((sortP_perm r).cons x)
theorem leP_iff {p q : Int × Int} : leP p q = true ↔ p.1 < q.1 ∨ (p.1 = q.1 ∧ p.2 ≤ q.2) := by
  unfold leP
  simp
theorem insP_sorted (x : Int × Int) : ∀ l : List (Int × Int), l.Pairwise (fun p q => leP p q = true) → (insP x l).Pairwise (fun p q => leP p q = true)
  | [], _ => by unfold insP; simp
  | y :: r, h => by
    unfold insP
    have h' := List.pairwise_cons.mp h
    split
    · rename_i c
      refine List.pairwise_cons.mpr ⟨fun z hz => ?_, h⟩
      rcases List.mem_cons.mp hz with e | hz
      · rw [e]; exact c
      · have q := leP_iff.mp (h'.1 z hz)
        have c := leP_iff.mp c
        refine leP_iff.mpr ?_
        omega
    · rename_i c
      refine List.pairwise_cons.mpr ⟨fun z hz => ?_, insP_sorted x r h'.2⟩
      rcases List.mem_cons.mp ((insP_perm x r).mem_iff.mp hz) with e | hz
      · rw [e]
        have c : ¬ (x.1 < y.1 ∨ (x.1 = y.1 ∧ x.2 ≤ y.2)) := fun z => c (leP_iff.mpr z)
        refine leP_iff.mpr ?_
        omega
      · exact h'.1 z hz
theorem sortP_sorted : ∀ l : List (Int × Int), (sortP l).Pairwise (fun p q => leP p q = true)
  | [] => .nil
  | x :: r => insP_sorted x _ (sortP_sorted r)
theorem sortedP_same {a b : List (Int × Int)} (h : a.Perm b) (h1 : a.Pairwise (fun p q => leP p q = true)) (h2 : b.Pairwise (fun p q => leP p q = true)) : a = b :=
  List.Perm.eq_of_pairwise (fun x y _ _ p q => by
    have p := leP_iff.mp p
    have q := leP_iff.mp q
    refine Prod.ext ?_ ?_ <;> omega) h1 h2 h
theorem pairsI_map : ∀ {xs : List PyData} {ps : List (Int × Int)}, pairsI xs = some ps → xs = ps.map pdP
  | [], ps, h => by cases h; rfl
  | x :: xs, ps, h => by
    unfold pairsI at h
    split at h <;> first | (rename_i e; cases e; done) | (cases h; done) | skip
    · rename_i e
      cases e
      obtain ⟨qs, h1, h2⟩ := mapO h
      subst h2
      rw [pairsI_map h1]; rfl
/-- the pair that a value stands for -/
theorem rep_pair {K : PySem.W.Frag} {L : List Addr} {H : Hp} {p : Int × Int} {v : V} (r : Rep K L H (pdP p) v) : TupI K H v [p.1, p.2] := by
  unfold pdP at r
  cases r with
  | tup h rr =>
    obtain ⟨e, _⟩ := rr.ints (ns := [p.1, p.2]) rfl
    exact ⟨_, rfl, by rw [← e]; exact h⟩
theorem pair_rep {K : PySem.W.Frag} {L : List Addr} {H : Hp} {a b : Int} {v : V} (h : TupI K H v [a, b]) : Rep K L H (pdP (a, b)) v := by
  obtain ⟨t, rfl, h⟩ := h
  exact .tup h (.cons (.int a) (.cons (.int b) .nil))
theorem RepAll.perm {K : PySem.W.Frag} {L : List Addr} {H : Hp} {ys xs : List V} (p : ys.Perm xs) : ∀ {ps : List (Int × Int)}, RepAll K L H (ps.map pdP) xs → ∃ qs : List (Int × Int), qs.Perm ps ∧ RepAll K L H (qs.map pdP) ys := by
  induction p with
  | nil => exact fun {ps} r => ⟨ps, .refl _, r⟩
  | cons x _ ih =>
    intro ps r
    cases ps with
    | nil => cases r
    | cons p ps =>
      cases r with
      | cons a b =>
        obtain ⟨qs, h1, h2⟩ := ih b
        exact ⟨p :: qs, h1.cons p, .cons a h2⟩
  | swap x y l =>
    intro ps r
    match ps, r with
    | p :: q :: ps, .cons a (.cons b c) => exact ⟨q :: p :: ps, .swap _ _ _, .cons b (.cons a c)⟩
  | trans _ _ ih1 ih2 =>
    intro ps r
    obtain ⟨qs, h1, h2⟩ := ih2 r
    obtain ⟨rs, h3, h4⟩ := ih1 h2
    exact ⟨rs, h3.trans h1, h4⟩
theorem code2 {B a b : Int} : TS.code B [a, b] = a * B + b := by
  simp [TS.code, Int.pow_succ]
theorem sortP_rep {K : PySem.W.Frag} {L : List Addr} {H : Hp} : ∀ {qs : List (Int × Int)} {ys : List V}, RepAll K L H (qs.map pdP) ys → (∀ q ∈ qs, okP q = true) → ys.Pairwise (fun x y => ∀ n m, TupI K H x n → TupI K H y m → TS.code 1152921504606846976 n ≤ TS.code 1152921504606846976 m) → qs.Pairwise (fun p q => leP p q = true)
  | [], _, _, _, _ => .nil
  | q :: qs, _ :: ys, .cons r rs, ho, hp => by
    obtain ⟨h1, h2⟩ := List.pairwise_cons.mp hp
    refine List.pairwise_cons.mpr ⟨fun z hz => ?_, sortP_rep rs (fun z hz => ho z (List.mem_cons_of_mem _ hz)) h2⟩
    have mem : ∀ {zs : List (Int × Int)} {vs : List V}, RepAll K L H (zs.map pdP) vs → z ∈ zs → ∃ v, v ∈ vs ∧ Rep K L H (pdP z) v := fun {zs} => by
      induction zs with
      | nil => exact fun _ h => by cases h
      | cons w zs ih =>
        intro vs r h
        cases r with
        | cons a b =>
          rcases List.mem_cons.mp h with e | h
          · subst e; exact ⟨_, List.mem_cons_self, a⟩
          · obtain ⟨v, h1, h2⟩ := ih b h
            exact ⟨v, List.mem_cons_of_mem _ h1, h2⟩
    obtain ⟨v, hv, rv⟩ := mem rs hz
    have c := h1 v hv _ _ (rep_pair r) (rep_pair rv)
    rw [code2, code2] at c
    have b1 := ho q List.mem_cons_self
    have b2 := ho z (List.mem_cons_of_mem _ hz)
    unfold okP at b1 b2
    simp only [Bool.and_eq_true, decide_eq_true_eq] at b1 b2
    refine leP_iff.mpr ?_
    omega
section
open PyProof.Rows TS
variable {prog : Program} {w : World} {A : Around} {E : Value → Shared → Prop} {s : Shared}
/-- the heap when all of a row's items were collected -/
def colH (h : Heap) (vs : List Value) : Heap := (h.push (seqObj "list" #[] 0)).update h.objs.size (Obj.mapSeq (· ++ vs.toArray))
theorem collect_tup {l : Addr} {vs : List Value} {Q : List Value → Shared → Prop} (hl : s.heap.IsTuple l vs.toArray)
    (h : Q vs { s with heap := colH s.heap vs }) (hsz : vs.length ≤ sizeLine) : wpAny (model prog w) A (collect (.ref l)) Q E s := by
  obtain ⟨o, ho, hc, n, hd⟩ := id hl
  unfold collect
  apply wpAny_bind
  apply wpAny_runValue
  apply codeAny_builtin entry_proto_collect'
  show wpAny _ _ (do again (.builtin "list.__iadd__" ⟨[← newList [], .ref l], []⟩)) _ _ s
  apply wpAny_bind
  apply wpAny_newList (hsz := Nat.zero_le _)
  refine wpAny_pure ⟨Code.quiet_builtin _ (by decide +kernel), ?_⟩
  apply codeAny_builtin entry_list_iadd'
  show wpAny _ _ (Builtin.List.listExtendWith (.ref s.heap.objs.size) (.ref l) (.ref s.heap.objs.size)) _ _ { s with heap := s.heap.push (seqObj "list" #[] 0) }
  unfold Builtin.List.listExtendWith
  have h0 : (s.heap.push (seqObj "list" #[] 0)).get? l = some o := by apply Heap.get?_push_of_some; exact ho
  apply wpAny_bind
  refine wpAny_typeOf (T := "tuple") ⟨o, h0, hc⟩ ?_
  rw [if_pos (by rw [Bool.or_eq_true]; right; rfl)]
  apply wpAny_bind
  refine listItems_at h0 hd ?_
  apply wpAny_bind
  refine listItems_at (xs := #[]) (n := 0) (Heap.get?_push_size _ rfl) rfl ?_
  rw [if_neg (by simp)]
  apply wpAny_bind
  refine listUpdate_at (xs := #[]) (n := 0) (Heap.get?_push_size _ rfl) rfl ?_ (Nat.zero_le _) (by show (#[] ++ vs.toArray).size ≤ sizeLine + 1; simp only [Array.size_append, List.size_toArray, List.length_nil]; omega)
  apply wpAny_pure
  show wpAny (model prog w) A (do
      let o ← load s.heap.objs.size
      match o.data with
      | .seq xs _ => pure xs.toList
      | _ => unsupported "internal:collect") Q E { s with heap := colH s.heap vs }
  apply wpAny_bind
  refine wpAny_load (get?_update_seq (Heap.get?_push_size _ rfl) _) ?_
  show wpAny _ _ (pure ((#[] : Array Value) ++ vs.toArray).toList) Q E _
  rw [show ((#[] : Array Value) ++ vs.toArray).toList = vs by simp]
  exact wpAny_pure h
theorem sorted_tup {l : Addr} {vs : List Value} {d : Nat} {B : Int} {Q : Value → Shared → Prop} (hl : s.heap.IsTuple l vs.toArray) (h64 : vs.length < 64) (hd : 1 ≤ d) (x : TupsOk s.heap d B vs)
    (h : ∀ out : Array Value, out.toList.Perm vs → out.toList.Pairwise (fun u v => code B (intsOf s.heap u) ≤ code B (intsOf s.heap v)) → Q (.ref (s.heap.objs.size + 1)) { s with heap := sortedAll s.heap vs out }) :
    wpAny (model prog w) A (call (.builtin "sorted") [.ref l]) Q E s := by
  have z : vs.length ≤ sizeLine := by rw [sizeLine_eq]; omega
  apply Calls.call_function_entry kind_sorted plain_sorted entry_sorted (args_sorted1 _)
  unfold Builtin.«sorted»
  apply wpAny_bind (m := checkCount "sorted" 1 1 _)
  apply wpAny_pure
  apply wpAny_bind
  refine collect_tup hl ?_ z
  apply wpAny_bind
  refine wpAny_newList ?_ z
  have hs1 : (colH s.heap vs).objs.size = s.heap.objs.size + 1 := by
    unfold colH; rw [Heap.size_update, size_push']
  have ho1 : ((colH s.heap vs).push (seqObj "list" vs.toArray 0)).get? (s.heap.objs.size + 1) = some (seqObj "list" vs.toArray 0) := by
    rw [← hs1]; exact Heap.get?_push_size _ rfl
  have kp : ∀ b o, s.heap.get? b = some o → o.cls = .type "tuple" → ((colH s.heap vs).push (seqObj "list" vs.toArray 0)).get? b = some o := fun b o q _ => by
    have lt := Heap.lt_size q
    rw [Heap.get?_push_ne _ _ _ (by rw [hs1]; exact Nat.ne_of_lt (Nat.lt_succ_of_lt lt))]
    unfold colH
    rw [Heap.get?_update_ne _ _ _ _ (Nat.ne_of_lt lt), Heap.get?_push_ne _ _ _ (Nat.ne_of_lt lt)]
    exact q
  show wpAny _ _ _ _ _ { s with heap := (colH s.heap vs).push (seqObj "list" vs.toArray 0) }
  rw [hs1]
  apply wpAny_bind
  apply wpAny_holding
  refine wpAny_call_entry slot_list_sort ⟨_, ho1, rfl⟩ entry_list_sort (sort_tups ho1 h64 hd (x.keeps kp) (fun v => code B (intsOf s.heap v)) (fun v hv ns t => ?_) fun out a1 a2 => ⟨_, rfl, wpAny_pure ⟨_, rfl, h out a1 a2⟩⟩) (args_list_sort _)
  obtain ⟨ns0, t0, _⟩ := x v hv
  have e : ns = ns0 := t.ints.symm.trans (t0.keeps kp).ints
  subst e
  show code B (intsOf s.heap v) = code B ns
  rw [t0.ints]
end
/-- sorted(xs), xs a tuple of fewer than 64 pairs -/
def rSrtTp (K : PySem.W.Frag) (B : Int) : List V → Hp → VK → Prop := fun vs H Q => ∃ (a : Addr) (xs : List V), vs = [V.ref a] ∧ SqT K H a xs ∧ xs.length < 64 ∧ (∀ x ∈ xs, ∃ ns, TupI K H x ns ∧ ns.length = 2 ∧ TS.Bd B ns) ∧
  ∀ (ys : List V) (p : Addr), ys.Perm xs → ys.Pairwise (fun x y => ∀ n m, TupI K H x n → TupI K H y m → TS.code B n ≤ TS.code B m) → H p = none → Q (.ref p) (upd H p (.lst ys))
theorem cr_srtTp {X : Cx} {B : Int} : CallR X (.builtin "sorted") (rSrtTp X.K B) := by
  intro pins s σ H vs us Q I r h
  obtain ⟨a, xs, rfl, hs, h64, hx, q⟩ := h
  obtain ⟨its, rv, hl, hz⟩ := I.tuple hs
  rw [Vals.ref1 r]
  have back := bkV_refs rv fun x m => by
    obtain ⟨ns, ⟨t, e, _⟩, _⟩ := hx x m
    exact ⟨t, e⟩
  have hln : its.length < 64 := by rw [← rv.length]; exact h64
  apply sorted_tup (d := 2) (B := B) hl hln (by omega)
  · intro v hv
    obtain ⟨t, rfl⟩ := back.2 v hv
    have hm : V.ref t ∈ xs := back.1 ▸ List.mem_map.mpr ⟨_, hv, rfl⟩
    obtain ⟨ns, ⟨t', e, ht⟩, hn, hb⟩ := hx _ hm
    cases e
    exact ⟨ns, tupI_raw I ht, hn, hb⟩
  · intro out h1 h2
    obtain ⟨ep, he'⟩ := PyProof.Rows.sortedAll_at s.heap its out
    have h3 : ∀ u ∈ out.toList, ∃ a, u = Value.ref a := fun u hu => back.2 u (h1.mem_iff.mp hu)
    have hp : (out.toList.map bkV).Perm xs := back.1 ▸ h1.map bkV
    have hlen : (out.toList.map bkV).length ≤ sizeLine := hp.length_eq ▸ hz
    have I2 : Inv X pins σ (upd H (s.heap.objs.size + 1) (.lst (out.toList.map bkV))) { s with heap := PyProof.Rows.sortedAll s.heap its out } :=
      I.laid (t' := s.toks) (fun _ _ => PyProof.Rows.sortedAll_old) (Nat.le_succ _) ⟨hlen, out.toList, ep, bkV_vals h3, he'⟩
    refine ⟨.ref _, _, I2, rfl, q _ _ hp ?_ (I.hok.fresh (Nat.le_succ _))⟩
    rw [List.pairwise_map]
    refine h2.imp fun {u v} huv n m ⟨t, et, ht⟩ ⟨t', et', ht'⟩ => ?_
    have i1 : TS.intsOf s.heap u = n := by rw [bkV_ref et]; exact (tupI_raw I ht).ints
    have i2 : TS.intsOf s.heap v = m := by rw [bkV_ref et']; exact (tupI_raw I ht').ints
    rw [← i1, ← i2]
    exact huv
theorem okP_bd {z : Int × Int} (b : okP z = true) : TS.Bd 1152921504606846976 [z.1, z.2] := fun m hm => by
  unfold okP at b
  simp only [Bool.and_eq_true, decide_eq_true_eq] at b
  simp only [List.mem_cons, List.not_mem_nil, or_false] at hm
  rcases hm with rfl | rfl
  · exact ⟨by omega, by omega⟩
  · exact ⟨by omega, by omega⟩
theorem okP_in {K : PySem.W.Frag} {L : List Addr} {H : Hp} {ps : List (Int × Int)} {vs : List V} (ra : RepAll K L H (ps.map pdP) vs) (okA : ∀ z ∈ ps, okP z = true) : ∀ v ∈ vs, ∃ ns, TupI K H v ns ∧ ns.length = 2 ∧ TS.Bd 1152921504606846976 ns := fun v hv => by
  obtain ⟨i, hi⟩ := List.getElem?_of_mem hv
  obtain ⟨d, hd, rd⟩ := ra.get' hi
  rw [List.getElem?_map, Option.map_eq_some_iff] at hd
  obtain ⟨z, hz, rfl⟩ := hd
  exact ⟨[z.1, z.2], rep_pair rd, rfl, okP_bd (okA z (List.mem_of_getElem? hz))⟩
theorem sortP_new {K : PySem.W.Frag} {L : List Addr} {H : Hp} {ps : List (Int × Int)} {vs ys : List V} (ra : RepAll K L H (ps.map pdP) vs) (okA : ∀ z ∈ ps, okP z = true) (p1 : ys.Perm vs) (p2 : ys.Pairwise (fun x y => ∀ n m, TupI K H x n → TupI K H y m → TS.code 1152921504606846976 n ≤ TS.code 1152921504606846976 m)) : RepAll K L H ((sortP ps).map pdP) ys := by
  obtain ⟨qs, g1, g2⟩ := RepAll.perm p1 ra
  have g3 := sortP_rep g2 (fun z hz => okA z (g1.mem_iff.mp hz)) p2
  have e : qs = sortP ps := sortedP_same (g1.trans (sortP_perm ps).symm) g3 (sortP_sorted ps)
  rw [← e]; exact g2
theorem sortP_ok : CallR X (.builtin "sorted") (rPrm X.K .sortP) := by
  rintro pins s σ H xs us Q I rs ⟨L, ds, r, t, hf, q⟩
  unfold primD at hf
  split at hf <;> first | (cases hf; done) | skip
  all_goals try (rename_i h; cases h)
  · obtain ⟨ps, h1, h2⟩ := Option.bind_eq_some_iff.mp hf
    split at h2
    · rename_i ok
      cases h2
      rw [Bool.and_eq_true, decide_eq_true_eq] at ok
      have okA := List.all_eq_true.mp ok.2
      obtain ⟨x, rfl, t1⟩ := tops1 t
      obtain ⟨a, vs, rfl, ha, ra⟩ := t1.list_inv
      have e := pairsI_map h1
      subst e
      have hl := ra.length
      rw [List.length_map] at hl
      exact cr_sortT (d := 2) (B := 1152921504606846976) (by omega) pins s σ H _ us Q I rs ⟨a, vs, rfl, ha.sq, by omega, okP_in ra okA, fun ys p p1 p2 hp => q _ _ (newL hp (sortP_new ra okA p1 p2))⟩
    · cases h2
  · obtain ⟨ps, h1, h2⟩ := Option.bind_eq_some_iff.mp hf
    split at h2
    · rename_i ok
      cases h2
      rw [Bool.and_eq_true, decide_eq_true_eq] at ok
      have okA := List.all_eq_true.mp ok.2
      obtain ⟨x, rfl, t1⟩ := tops1 t
      obtain ⟨a, vs, rfl, ha, ra⟩ := t1.tuple_inv
      have e := pairsI_map h1
      subst e
      have hl := ra.length
      rw [List.length_map] at hl
      exact cr_srtTp (B := 1152921504606846976) pins s σ H _ us Q I rs ⟨a, vs, rfl, ha, by omega, okP_in ra okA, fun ys p p1 p2 hp => q _ _ (newL hp (sortP_new ra okA p1 p2))⟩
    · cases h2
theorem int_ok : CallR X (.type "int") (rPrm X.K .int) := by
  rintro pins s σ H xs us Q I rs ⟨L, ds, r, t, hf, q⟩
  unfold primD at hf
  split at hf <;> first | (cases hf; done) | skip
  all_goals try (rename_i h; cases h)
  · cases hf
    obtain ⟨x, rfl, t1⟩ := tops1 t
    cases t1.int_inv
    exact call_int1 pins s σ H _ us Q I rs (.inl ⟨_, rfl, q _ _ (sameV (.int _))⟩)
  · cases hf
    obtain ⟨x, rfl, t1⟩ := tops1 t
    cases t1.bool_inv
    exact call_int1 pins s σ H _ us Q I rs (.inr ⟨_, rfl, q _ _ (sameV (.int _))⟩)
theorem abs_ok : CallR X (.builtin "abs") (rPrm X.K .abs) := by
  rintro pins s σ H xs us Q I rs ⟨L, ds, r, t, hf, q⟩
  unfold primD at hf
  split at hf <;> first | (cases hf; done) | skip
  all_goals try (rename_i h; cases h)
  cases hf
  obtain ⟨x, rfl, t1⟩ := tops1 t
  cases t1.int_inv
  exact call_abs pins s σ H _ us Q I rs ⟨_, rfl, q _ _ (sameV (.int _))⟩
/-! repr -/
mutual
theorem Rep.dpS {K : PySem.W.Frag} {L : List Addr} {H : Hp} : ∀ {d : PyData} {v : V}, Rep K L H d v → d.hasDict = false → Dp K H v d
  | _, _, .non, _ => .non
  | _, _, .bl b, _ => .bl b
  | _, _, .int i, _ => .int i
  | _, _, .str x, _ => .str x
  | .list _, _, .lst _ h r, c => .lst (.inl h) (RepAll.dpS r (by simpa only [PyData.hasDict] using c))
  | .list _, _, .lstK h r, c => .lst (LsK.sq (.inr h)) (RepAll.dpS r (by simpa only [PyData.hasDict] using c))
  | .tuple _, _, .tup h r, c => .tup h (RepAll.dpS r (by simpa only [PyData.hasDict] using c))
  | .dict _, _, .dct _ _ _, c => by simp [PyData.hasDict] at c
theorem RepAll.dpS {K : PySem.W.Frag} {L : List Addr} {H : Hp} : ∀ {ds : List PyData} {vs : List V}, RepAll K L H ds vs → PyData.hasDictAll ds = false → DpAll K H vs ds
  | _, _, .nil, _ => .nil
  | _ :: _, _, .cons r rs, c => by
    have c' := (Bool.or_eq_false_iff.mp (by simpa only [PyData.hasDictAll] using c))
    exact .cons (Rep.dpS r c'.1) (RepAll.dpS rs c'.2)
end
theorem Top.dpS {K : PySem.W.Frag} {L : List Addr} {H : Hp} {d : PyData} {v : V} (t : Top K L H d v) (c : d.hasDict = false) : Dp K H v d := by
  cases t with
  | of r => exact r.dpS c
  | lst h r => exact .lst h.sq (RepAll.dpS r (by simpa only [PyData.hasDict] using c))
  | dct h r => simp [PyData.hasDict] at c
theorem repr_ok (hu : X.A.units + 200 < cLine) (hg : X.A.guards = some []) : CallR X (.builtin "repr") (rPrm X.K .repr) := by
  rintro pins s σ H xs us Q I rs ⟨L, ds, r, t, hf, q⟩
  unfold primD at hf
  split at hf <;> first | (cases hf; done) | skip
  all_goals try (rename_i h; cases h)
  split at hf
  · rename_i d c
    cases hf
    obtain ⟨c1, c2, c3, c4⟩ := c
    obtain ⟨x, rfl, t1⟩ := tops1 t
    obtain ⟨u, rfl, rx⟩ := vals1 rs
    obtain ⟨as, rd⟩ := Dp.reads I d x u (t1.dpS c3) rx
    have fin : ∀ h' w tk, (∀ b o, s.heap.get? b = some o → h'.get? b = some o) → EP X pins σ Q (.str d.shown w) { s with heap := h', toks := tk } := fun h' w tk k => ⟨.str d.shown, H, I.kept k, ⟨w, rfl⟩, q _ _ (sameV (.str _))⟩
    have fin0 : ∀ w tk, EP X pins σ Q (.str d.shown w) { s with toks := tk } := fun w tk => fin s.heap w tk fun _ _ e => e
    cases rd with
    | none => simp only [PyData.shown] at fin0 ⊢; exact PySem.P.repr_of_none (fin0 _ _)
    | bool b => simp only [PyData.shown] at fin0 ⊢; exact PySem.P.repr_of_bool (fin0 _ _)
    | int i k => simp only [PyData.shown, PyData.showable, decide_eq_true_eq] at fin0 c1 ⊢; exact PySem.P.repr_of_int c1 (fin0 _ _)
    | str z k => simp only [PyData.shown] at fin0 c2 ⊢; exact PySem.P.repr_of_str (fin0 _ _) (by rw [← lim_eq]; exact c2)
    | list h1 h2 h3 h4 => exact repr_of_reads' (.list h1 h2 h3 h4) c1 (fun z => by rw [c3] at z; cases z) hg (by omega) (fun _ _ e => e) fin (by rw [← lim_eq]; exact c2)
    | tuple h1 h2 h3 h4 => exact repr_of_reads' (.tuple h1 h2 h3 h4) c1 (fun z => by rw [c3] at z; cases z) hg (by omega) (fun _ _ e => e) fin (by rw [← lim_eq]; exact c2)
    | dict h1 h2 h3 h4 h5 => simp [PyData.hasDict] at c3
  · cases hf
end
end Rf

set_option Elab.async false
set_option linter.all false
set_option maxRecDepth 100000
set_option maxHeartbeats 4000000
/-! Rg2: len(set(x)) of a list of whole numbers. -/
namespace Rf
open PySem PySem.Spec L2
theorem insU_mem {x k : Int} : ∀ {l : List Int}, k ∈ insU x l ↔ k = x ∨ k ∈ l
  | [] => by simp [insU]
  | y :: r => by
    unfold insU
    by_cases h1 : x < y
    · rw [if_pos h1]; simp
    · rw [if_neg h1]
      by_cases h2 : x = y
      · rw [if_pos h2]; subst h2; simp
      · rw [if_neg h2, List.mem_cons, insU_mem, List.mem_cons]
        constructor
        · rintro (h | h | h)
          · exact .inr (.inl h)
          · exact .inl h
          · exact .inr (.inr h)
        · rintro (h | h | h)
          · exact .inr (.inl h)
          · exact .inl h
          · exact .inr (.inr h)
theorem insU_ris {x : Int} : ∀ {l : List Int}, l.Pairwise (· < ·) → (insU x l).Pairwise (· < ·)
  | [], _ => by simp [insU]
  | y :: r, h => by
    obtain ⟨h1, h2⟩ := List.pairwise_cons.mp h
    unfold insU
    by_cases g1 : x < y
    · rw [if_pos g1]
      refine List.pairwise_cons.mpr ⟨fun z hz => ?_, h⟩
      rcases List.mem_cons.mp hz with rfl | hz
      · exact g1
      · exact Int.lt_trans g1 (h1 z hz)
    · rw [if_neg g1]
      by_cases g2 : x = y
      · rw [if_pos g2]; exact h
      · rw [if_neg g2]
        refine List.pairwise_cons.mpr ⟨fun z hz => ?_, insU_ris h2⟩
        rcases insU_mem.mp hz with rfl | hz
        · omega
        · exact h1 z hz
theorem usort_mem {k : Int} : ∀ {l : List Int}, k ∈ usort l ↔ k ∈ l
  | [] => by simp [usort]
  | x :: r => by rw [show usort (x :: r) = insU x (usort r) from rfl, insU_mem, usort_mem, List.mem_cons]
theorem usort_ris : ∀ l : List Int, (usort l).Pairwise (· < ·)
  | [] => .nil
  | x :: r => insU_ris (usort_ris r)
theorem ris_nd {l : List Int} (h : l.Pairwise (· < ·)) : l.Nodup := h.imp fun {a b} z => Int.ne_of_lt z
theorem usort_le : ∀ l : List Int, (usort l).length ≤ l.length
  | [] => Nat.le_refl _
  | x :: r => by
    have go : ∀ l : List Int, (insU x l).length ≤ l.length + 1 := fun l => by
      induction l with
      | nil => exact Nat.le_refl _
      | cons y l ih =>
        unfold insU
        split
        · exact Nat.le_refl _
        · split
          · exact Nat.le_succ _
          · exact Nat.succ_le_succ ih
    exact Nat.le_trans (go _) (Nat.succ_le_succ (usort_le r))
theorem ris_same {a b : List Int} (h1 : a.Pairwise (· < ·)) (h2 : b.Pairwise (· < ·)) (h : ∀ k, k ∈ a ↔ k ∈ b) : a = b :=
  sorted_same ((List.perm_ext_iff_of_nodup (ris_nd h1) (ris_nd h2)).mpr h) (h1.imp fun {a b} z => Int.le_of_lt z) (h2.imp fun {a b} z => Int.le_of_lt z)
section
open PyProof.Rows
theorem firstNd (val : Nat → Int) : ∀ i, (firstMet val i).Nodup
  | 0 => by rw [firstMet_zero]; exact .nil
  | i + 1 => by
    rw [firstMet_succ]
    unfold step_dedup
    split
    · exact firstNd val i
    · rename_i h
      refine List.nodup_append.mpr ⟨firstNd val i, by simp, fun a ha b hb e => ?_⟩
      rw [List.mem_singleton.mp hb] at e
      subst e
      exact h (List.any_eq_true.mpr ⟨_, ha, by simp⟩)
theorem firstLen (ns : List Int) : (firstMet (fun i => ns.getD i 0) ns.length).length = (usort ns).length := by
  refine ((List.perm_ext_iff_of_nodup (firstNd _ _) (ris_nd (usort_ris ns))).mpr fun k => ?_).length_eq
  have e := firstMet_any (fun i => ns.getD i 0) ns.length k
  have m : (List.range ns.length).map (fun i => ns.getD i 0) = ns := by
    refine List.ext_getElem (by simp) fun i h1 h2 => ?_
    simp [h2]
  rw [m] at e
  have key : ∀ l : List Int, l.any (· == k) = true ↔ k ∈ l := fun l => by simp
  rw [usort_mem, ← key, ← key ns, e]
theorem intsAreV : ∀ {ns : List Int} {us : List Value}, Vals (ns.map V.int) us → IntsAre us ns
  | [], _, .nil => .nil
  | n :: ns, _, .cons r t => by
    obtain ⟨k, rfl⟩ := r
    exact .cons n k (intsAreV t)
variable {X : Cx}
def tLset (K : PySem.W.Frag) (ta : TE) : TE := fun σ H Q => ta σ H fun x H1 => ∃ (l : Addr) (ns : List Int), x = .ref l ∧ LsK K H1 l (ns.map V.int) ∧ ns.length ≤ 4000 ∧ Q (.int ((usort ns).length : Nat)) H1
theorem pe_lset {a : Expr} {ta : TE} {p p2 q pos : Pos} (hc : X.calm = true) (hg : Gl X "len") (hm : X.mg "len" = none) (hg2 : Gl X "set") (hm2 : X.mg "set" = none) (ha : PE X a ta)
    (na : starEach [a] X.env = (false, eval a X.env) :: starEach [] X.env) : PE X (.Call (.Name "len" p) [.Call (.Name "set" p2) [a] [] q] [] pos) (tLset X.K ta) := by
  refine ⟨fun pins s σ H Q I h => Call_ (ld_blt I hg hm PySem.boot_len (callWith_builtin1 (args_cons (Call_ (ld_blt I hg2 hm2 boot_set ?_)) rfl) rfl rfl))⟩
  refine callWith_type1 (args_cons (thn (ha.run pins s σ H _ I h) fun v s1 ⟨x, H1, I1, r1, q1⟩ => args_nil ?_) na) na rfl
  obtain ⟨l, ns, rfl, hq, hl, q2⟩ := q1
  cases r1
  obtain ⟨o, its, n, r, e1⟩ := hq.obj I1
  have size : its.toArray.size = ns.length := by rw [List.size_toArray, ← r.length, List.length_map]
  refine call_set_list (I1.ok.hd hc) ⟨_, e1, rfl, n, rfl⟩ (by simpa using intsAreV r) (by rw [size]; unfold scanBound; omega) fun h' tk hS hk => args_nil ?_
  rw [size, firstLen] at hS
  obtain ⟨o2, es, ep, t, ho, hex, hd, _, _, _, hf, hn⟩ := hS
  have I2 : Inv X pins σ H1 { s1 with heap := h', toks := tk } := I1.kept fun b o e => hk b o (Heap.lt_size e) e
  have ul := usort_le ns
  exact call_len_set ho hex hd hf (by rw [hn]; omega) ⟨.int ((usort ns).length : Nat), H1, I2.tok _, ⟨_, by rw [hn]⟩, q2⟩
end
end Rf

set_option Elab.async false
set_option linter.all false
set_option maxRecDepth 100000
set_option maxHeartbeats 4000000
/-! Rf5: expressions. -/
namespace Rf
open PySem PySem.Spec L2

/-! ### functions -/
abbrev SpG := List V → Hp → VK → Prop
structure FnG (P : Program) (w : World) (K : PySem.W.Frag) (mg : Str → Option Value) (base : Heap) (k : Nat) (f : Addr) (fd : FuncData) (ps : List Str) (sp : SpG) : Prop where
  len : ∀ vs H Q, sp vs H Q → vs.length = ps.length
  run : ∀ (A : Around) (outer : List PySem.Env) (s : Shared) (H : Hp) (args : Args) (us : List Value) (vs : List V) (Q : VK), Room k A → A.guards = some [] → Env0 P w K mg base A outer s H →
    BindsTo s fd args (ps.zip us) → Vals vs us → sp vs H Q → codeAny (model P w) A (.call (.ref f) args) (CR CX0 outer P w H s Q E0) s
theorem FnG.mono {P : Program} {w : World} {K : PySem.W.Frag} {mg : Str → Option Value} {base : Heap} {j k : Nat} {f : Addr} {fd : FuncData} {ps : List Str} {sp : SpG} (F : FnG P w K mg base j f fd ps sp) (h : j ≤ k) : FnG P w K mg base k f fd ps sp :=
  ⟨F.len, fun A outer s H args us vs Q hr => F.run A outer s H args us vs Q (hr.mono h)⟩
/-- the caller's objects, as they come back -/
def putOuts : List SV → List MO → Option (List SV)
  | [], [] => some []
  | .p _ :: ss, o :: os => (putOuts ss os).map (.p o :: ·)
  | .p _ :: _, [] => none
  | s :: ss, os => (putOuts ss os).map (s :: ·)
  | [], _ :: _ => none
def notM : SV → Bool
  | .m _ => false
  | _ => true
/-- a function's promise, by the machine's -/
def spR (K : PySem.W.Frag) (F : Fn) (f : Nat) : SpG := fun vs H Q => ∃ (W : Wd) (ss : List SV) (r : RV) (os : List MO) (ss' : List SV), W.H0 = H ∧ Sim K W W.P0 H (ss.map some) (vs.map some) ∧ ss.all notM = true ∧ F f ss = .ok (r, os) ∧ putOuts ss os = some ss' ∧
  ∀ v H', Ext (ow W.P0) H H' → PostV K W W.P0 H H' (ss'.map some) (vs.map some) v r → Q v H'

/-- the text's names: built-ins not hidden, constants, functions -/
structure Gd where
  free : List Str
  con : List (Str × PyData)
  fns : List (Str × Nat)
structure CallOk (X : Cx) (F : Fn) (x : Str) (f : Nat) : Prop where
  adr : X.mg x = some (.ref (fnA X.K x))
  ex : ∃ (fa : Addr) (fd : FuncData) (ps : List Str) (k : Nat), X.mg x = some (.ref fa) ∧ PySem.W.keepIn X.K (.ref fa) = true ∧ Binds X.K fd ps [] ∧ Room k X.A ∧ FnG X.prog X.w X.K X.mg X.base k fa fd ps (spR X.K F f)
structure Ctx (X : Cx) (F : Fn) (G : Gd) : Prop where
  calm : X.calm = true
  nd : X.N.Nodup
  units : X.A.units + 200 < cLine
  guards : X.A.guards = some []
  free : ∀ x ∈ G.free, X.mg x = none
  con : ∀ x d, (x, d) ∈ G.con → ∃ u v, X.mg x = some u ∧ RelV v u ∧ ∀ L H, Rep X.K L H d v
  fns : ∀ x f, (x, f) ∈ G.fns → CallOk X F x f

/-! ### which text is which term -/
def glB (sc : Scope) (x : Str) : Bool := decide (sc.names.lookup x = some .globalImplicit) && !(x == ("__debug__" : Str))
def locB (sc : Scope) (x : Str) : Bool := decide (sc.names.lookup x = some .local) || decide (sc.names.lookup x = some .cell)
def visB (sc : Scope) (x : Str) : Bool := locB sc x || decide (sc.names.lookup x = some .free)
def starB : Expr → Bool
  | .Starred _ _ => true
  | _ => false
def sliceB : Expr → Bool
  | .Slice _ _ _ _ => true
  | _ => false
def nameB (N : List Str) (sc : Scope) (i : Nat) : Expr → Bool
  | .Name x _ => decide (N[i]? = some x) && visB sc x && !(x == ("__debug__" : Str)) && !(x == ("__classdict__" : Str))
  | _ => false
def tgB (N : List Str) (sc : Scope) (i : Nat) : Expr → Bool
  | .Name x _ => decide (N[i]? = some x) && locB sc x
  | _ => false
def tgsB (N : List Str) (sc : Scope) : List Nat → List Expr → Bool
  | [], [] => true
  | i :: is, e :: es => tgB N sc i e && tgsB N sc is es
  | _, _ => false
def ckTg (N : List Str) (sc : Scope) : Tg → Expr → Bool
  | .n i, e => tgB N sc i e
  | .t is, .Tuple es _ _ => tgsB N sc is es
  | _, _ => false
def freeB (G : Gd) (sc : Scope) (x : Str) : Bool := glB sc x && decide (x ∈ G.free) && !(x == ("__name__" : Str))
def Pm.nm : Pm → Str
  | .len => "len"
  | .tuple => "tuple"
  | .list => "list"
  | .all => "all"
  | .any => "any"
  | .sum => "sum"
  | .min => "min"
  | .max => "max"
  | .min2 => "min"
  | .max2 => "max"
  | .sorted => "sorted"
  | .sortP => "sorted"
  | .int => "int"
  | .abs => "abs"
  | .repr => "repr"
  | .tupRev => "tuple"
  | .dict => "dict"
def Mt.nm : Mt → Str
  | .append => "append"
  | .extend => "extend"
  | .pop0 => "pop"
  | .dget => "get"
  | .dget2 => "get"
  | .dpop2 => "pop"
  | .popAt => "pop"
def Mt.ar : Mt → Nat
  | .append => 1
  | .extend => 1
  | .pop0 => 0
  | .dget => 1
  | .dget2 => 99
  | .dpop2 => 2
  | .popAt => 1
def Es.len : Es → Nat
  | .nil => 0
  | .cons _ es => es.len + 1
def tgIn (ow : List Nat) : Tg → Bool
  | .n i => decide (i ∈ ow)
  | .t is => is.all fun i => decide (i ∈ ow)
section
variable (G : Gd) (N : List Str)
def setB : Expr → Bool
  | .Set _ _ _ => true
  | _ => false
def rawB (scope : Scope) (i : Nat) : Bool := match N[i]? with
  | some x => decide (scope.names.lookup x = some .local) || decide (scope.names.lookup x = some .cell)
  | none => false
def tgRaw (scope : Scope) : Tg → Bool
  | .n i => rawB N scope i
  | .t is => is.all (rawB N scope)
def ownOk (sc : Scope) (scope : Scope) (is : List Nat) : Bool := blkC N sc scope (is.filterMap fun i => (N[i]?).map fun x => (x, i)) && decide ((is.filterMap fun i => (N[i]?).map fun x => (x, i)).map (·.2) = is)
mutual
def ckE (sc : Scope) : E → Expr → Bool
  | .var i, e => nameB N sc i e
  | .non, .Constant .none _ _ => true
  | .bl b, .Constant (.bool c) _ _ => b == c
  | .int i, .Constant (.int j) _ _ => decide (i = j)
  | .str x, .Constant (.str y) _ _ => decide (x = y)
  | .fn g x, .Name y _ => decide (x = y) && glB sc y && decide ((y, g) ∈ G.fns)
  | .cal i fs es, .Call (.Name x p) (y :: ys) [] _ => nameB N sc i (.Name x p) && fs.all (fun q => decide ((q.2, q.1) ∈ G.fns)) && ckEs sc es (y :: ys)
  | .glo x d, .Name y _ => decide (x = y) && glB sc y && G.con.any fun p => decide (p.1 = x) && PyData.beqD p.2 d
  | .tup es, .Tuple xs _ _ => ckEs sc es xs
  | .lst es, .List xs _ => ckEs sc es xs
  | .dic0, .Dict [] [] _ => true
  | .dic1 k e, .Dict [some (.Constant (.str y) _ _)] [x] _ => decide (k = y) && ckE sc e x
  | .bin op a b, .BinOp x o y _ => decide (o = op.py) && ckE sc a x && ckE sc b y
  | .neg a, .UnaryOp .USub x _ => ckE sc a x
  | .not a, .UnaryOp .Not x _ => ckE sc a x
  | .and a b, .BoolOp .And [x, y] _ => ckE sc a x && ckE sc b y
  | .and a b, .BoolOp .And (x :: y :: z :: r) pos => ckE sc a x && ckE sc b (.BoolOp .And (y :: z :: r) pos)
  | .or a b, .BoolOp .Or [x, y] _ => ckE sc a x && ckE sc b y
  | .or a b, .BoolOp .Or (x :: y :: z :: r) pos => ckE sc a x && ckE sc b (.BoolOp .Or (y :: z :: r) pos)
  | .ife c a b, .IfExp x y z _ => ckE sc c x && ckE sc a y && ckE sc b z
  | .cmp op a b, .Compare x [o] [y] _ => decide (o = op.py) && ckE sc a x && ckE sc b y && !behindInMarks o y
  | .chn op op2 a b c, .Compare x [o, o2] [y, z] _ => decide (o = op.py) && decide (o2 = op2.py) && ckE sc a x && ckE sc b y && ckE sc c z && !lastMarks [o, o2] [y, z]
  | .isn a, .Compare x [.Is] [.Constant .none _ _] _ => ckE sc a x
  | .nis a, .Compare x [.IsNot] [.Constant .none _ _] _ => ckE sc a x
  | .idx a b, .Subscript x y _ => ckE sc a x && ckE sc b y && !sliceB y
  | .slc a lo hi, .Subscript x (.Slice l u none _) _ => ckE sc a x && ckO sc lo l && ckO sc hi u
  | .rev a, .Subscript x (.Slice none none (some (.UnaryOp .USub (.Constant (.int i) _ _) _)) _) _ => decide (i = 1) && ckE sc a x
  | .call f x es, .Call (.Name y _) xs [] _ => decide (x = y) && glB sc y && decide ((x, f) ∈ G.fns) && ckEs sc es xs
  | .prm .tupRev (.cons a .nil), .Call (.Name y _) [.Call (.Name z _) [x] [] _] [] _ => decide (y = "tuple") && decide (z = "reversed") && freeB G sc y && freeB G sc z && ckE sc a x && !starB x
  | .prm .tupRev _, _ => false
  | .prm p es, .Call (.Name y _) (x :: xs) [] _ => decide (y = p.nm) && freeB G sc y && ckEs sc es (x :: xs)
  | .isi a t, .Call (.Name y _) [x, .Name z _] [] _ => decide (y = "isinstance") && freeB G sc y && ckE sc a x && !starB x && decide (z = Str.ofString t.nm) && freeB G sc z
  | .met m i es, .Call (.Attribute o a apos) xs [] cpos => decide (a = m.nm) && nameB N sc i o && ckEs sc es xs && (apos.endLine == cpos.line) && decide (xs.length < 10) && decide (es.len = m.ar)
  | .comp ow elt tg it c, .ListComp x [⟨t, s, ifs, 0⟩] scope _ => ownOk N sc scope ow && tgIn ow tg && tgRaw N scope tg && !setB s && ckTg N (relS scope sc) tg t && ckI sc it s && ckC (relS scope sc) c ifs && ckE (relS scope sc) elt x
  | .compD ow elt tg i c, .ListComp x [⟨t, s, ifs, 0⟩] scope _ => ownOk N sc scope ow && tgIn ow tg && tgRaw N scope tg && !setB s && ckTg N (relS scope sc) tg t && nameB N sc i s && ckC (relS scope sc) c ifs && ckE (relS scope sc) elt x
  | .comp2 ow ow1 elt tg it c tg1 it1 c1, .ListComp x [⟨t, s, ifs, 0⟩, ⟨t1, s1, ifs1, 0⟩] scope _ => ownOk N sc scope ow && (tgIn ow tg && tgIn ow1 tg1 && ow1.all (fun i => decide (i ∈ ow))) && (tgRaw N scope tg && tgRaw N scope tg1) && (!setB s && !setB s1) && (ckTg N (relS scope sc) tg t && ckTg N (relS scope sc) tg1 t1) && (ckI sc it s && ckI (relS scope sc) it1 s1) && (ckC (relS scope sc) c ifs && ckC (relS scope sc) c1 ifs1) && ckE (relS scope sc) elt x
  | .rpl a b, .BinOp x o y _ => decide (o = Operator.Mult) && ckE sc a x && ckE sc b y
  | .lrg1 a, .Call (.Name y _) [.Call (.Name z _) [x] [] _] [] _ => decide (y = "list") && decide (z = "range") && freeB G sc y && freeB G sc z && ckE sc a x && !starB x
  | .lrg2 a b, .Call (.Name y _) [.Call (.Name z _) [x, x2] [] _] [] _ => decide (y = "list") && decide (z = "range") && freeB G sc y && freeB G sc z && ckE sc a x && !starB x && ckE sc b x2 && !starB x2
  | .lset a, .Call (.Name y _) [.Call (.Name z _) [x] [] _] [] _ => decide (y = "len") && decide (z = "set") && freeB G sc y && freeB G sc z && ckE sc a x && !starB x
  | _, _ => false
def ckEs (sc : Scope) : Es → List Expr → Bool
  | .nil, [] => true
  | .cons e es, x :: xs => ckE sc e x && !starB x && ckEs sc es xs
  | _, _ => false
def ckO (sc : Scope) : Oe → Option Expr → Bool
  | .none, none => true
  | .some e, some x => ckE sc e x
  | _, _ => false
def ckC (sc : Scope) : Oe → List Expr → Bool
  | .none, [] => true
  | .some e, [x] => ckE sc e x
  | _, _ => false
def ckI (sc : Scope) : It → Expr → Bool
  | .r1 a, .Call (.Name y _) [x] [] _ => decide (y = "range") && freeB G sc y && ckE sc a x && !starB x
  | .r2 a b, .Call (.Name y _) [x, x2] [] _ => decide (y = "range") && freeB G sc y && ckE sc a x && !starB x && ckE sc b x2 && !starB x2
  | .r3 a b c, .Call (.Name y _) [x, x2, x3] [] _ => decide (y = "range") && freeB G sc y && ckE sc a x && !starB x && ckE sc b x2 && !starB x2 && ckE sc c x3 && !starB x3
  | .e a, x => ckE sc a x
  | _, _ => false
end
end
end Rf

set_option Elab.async false
set_option linter.all false
set_option maxRecDepth 100000
set_option maxHeartbeats 4000000
/-! Rf6: expressions, one by one. -/
namespace Rf
open PySem PySem.Spec L2

abbrev EvR := Env → Res (RV × Env)
/-- the machine's answer as a reading -/
def tV (K : PySem.W.Frag) (f : EvR) : TE := fun σ H Q => ∃ (W : Wd) (A : Own) (ρ : Env) (r : RV) (ρ' : Env), Sim K W A H ρ σ ∧ f ρ = .ok (r, ρ') ∧ ∀ v H', Ext (ow A) H H' → PostV K W A H H' ρ' σ v r → Q v H'
theorem PE.imp {X : Cx} {e : Expr} {t t' : TE} (h : PE X e t) (i : ∀ σ H Q, t' σ H Q → t σ H Q) : PE X e t' := ⟨fun pins s σ H Q I q => h.run pins s σ H Q I (i σ H Q q)⟩
theorem PT.imp {X : Cx} {e : Expr} {t t' : TT} (h : PT X e t) (i : ∀ σ H Q, t' σ H Q → t σ H Q) : PT X e t' := ⟨fun pins s σ H Q I q => h.run pins s σ H Q I (i σ H Q q)⟩
theorem PW.imp {X : Cx} {e : Expr} {t t' : TT} (h : PW X e t) (i : ∀ σ H Q, t' σ H Q → t σ H Q) : PW X e t' := ⟨fun wh pins s σ H Q I q => h.run wh pins s σ H Q I (i σ H Q q)⟩
theorem PA.imp {X : Cx} {es : List Expr} {t t' : TA} (h : PA X es t) (i : ∀ σ H Q, t' σ H Q → t σ H Q) : PA X es t' := ⟨fun pos pins s σ H Q I q => h.run pos pins s σ H Q I (i σ H Q q)⟩
theorem PI.imp {X : Cx} {tg e : Expr} {t t' : TI} (h : PI X tg e t) (i : ∀ σ H Q, t' σ H Q → t σ H Q) : PI X tg e t' := ⟨fun pins s σ H Q I q => h.run pins s σ H Q I (i σ H Q q)⟩
theorem PG.imp {X : Cx} {e : Expr} {t t' : TG} (h : PG X e t) (i : ∀ v σ H Q, t' v σ H Q → t v σ H Q) : PG X e t' := ⟨fun pins s σ H v u Q I r q => h.run pins s σ H v u Q I r (i v σ H Q q)⟩
theorem PTs.imp {X : Cx} {e : List Expr} {t t' : TT} (h : PTs X e t) (i : ∀ σ H Q, t' σ H Q → t σ H Q) : PTs X e t' := ⟨fun pins s σ H Q I q => h.run pins s σ H Q I (i σ H Q q)⟩
section
variable {K : PySem.W.Frag} {W : Wd} {A : Own} {ρ ρ' : Env} {σ : St} {H : Hp} {r : RV}
theorem tV.mk {f : EvR} {Q : VK} (S : Sim K W A H ρ σ) (h : f ρ = .ok (r, ρ')) (q : ∀ v H', Ext (ow A) H H' → Sim K W A H' ρ' σ → Held K W A H' σ v r → Q v H') : tV K f σ H Q :=
  ⟨W, A, ρ, r, ρ', S, h, fun v H' e p => let ⟨S', hl⟩ := p.held S; q v H' e S' hl⟩
theorem Ext.nil {O : List Addr} {H H' : Hp} (e : Ext [] H H') : Ext O H H' := e.mono fun a z => absurd z (by simp)
theorem okInv {α : Type} {a b : α} (h : (Res.ok a) = .ok b) : a = b := by cases h; rfl
end
section
variable {X : Cx} {F : Fn} {a b c : Expr} {ea eb ec : E} {pos : Pos}
theorem e_const {e : Expr} {v : V} {d : PyData} {f : EvR} (h : PE X e (tC v)) (hf : ∀ ρ, f ρ = .ok (.v d, ρ)) (r : ∀ L H, Rep X.K L H d v) : PE X e (tV X.K f) := by
  refine PE.imp h fun σ H Q ⟨W, A, ρ, rr, ρ', S, he, q⟩ => ?_
  rw [hf] at he
  cases he
  exact q v H (Ext.refl _ _) ⟨S, r _ _⟩
theorem e_var {i : Nat} {e : Expr} (h : PE X e (tVar i)) : PE X e (tV X.K (ev F (.var i))) := by
  refine PE.imp h fun σ H Q ⟨W, A, ρ, rr, ρ', S, he, q⟩ => ?_
  unfold ev at he
  cases hs : slot ρ i with
  | none => rw [hs] at he; cases he
  | some s =>
    rw [hs] at he
    obtain ⟨v, h1, h2⟩ := S.slots i s hs
    refine ⟨v, h1, ?_⟩
    cases s with
    | v d => cases he; exact q v H (Ext.refl _ _) ⟨S, h2.2⟩
    | f g x => cases he; exact q v H (Ext.refl _ _) ⟨S, h2.2⟩
    | m o =>
      cases he
      obtain ⟨b, q1, q2, _⟩ := h2
      exact q v H (Ext.refl _ _) ⟨S, h1, b, q1⟩
    | p o =>
      cases he
      obtain ⟨b, q1, q2, _⟩ := h2
      exact q v H (Ext.refl _ _) ⟨S, h1, b, q1⟩
theorem e_bin {op : Bo} (ha : PE X a (tV X.K (ev F ea))) (hb : PE X b (tV X.K (ev F eb))) : PE X (.BinOp a op.py b pos) (tV X.K (ev F (.bin op ea eb))) := by
  refine PE.imp (pe_op (bin_ok op) ha hb) fun σ H Q ⟨W, A, ρ, rr, ρ', S, he, q⟩ => ?_
  unfold ev at he
  obtain ⟨⟨ra, ρ1⟩, h1, he⟩ := bnd_inv he
  obtain ⟨⟨rb, ρ2⟩, h2, he⟩ := bnd_inv he
  obtain ⟨x, hx, he⟩ := bnd_inv he
  obtain ⟨y, hy, he⟩ := bnd_inv he
  obtain ⟨r0, hr, he⟩ := bnd_inv he
  cases he
  refine tV.mk S h1 fun va H1 e1 S1 l1 => tV.mk S1 h2 fun vb H2 e2 S2 l2 => ⟨_, x, y, _, (l1.ext e2).look S2 (ofO_inv hx), l2.look S2 (ofO_inv hy), ofO_inv hr, fun v H' nv => ?_⟩
  obtain ⟨p, e3⟩ := nv.post S2 (e1.trans e2).dom
  exact q v H' ((e1.trans e2).trans e3.nil) p
theorem e_rpl (ha : PE X a (tV X.K (ev F ea))) (hb : PE X b (tV X.K (ev F eb))) : PE X (.BinOp a .Mult b pos) (tV X.K (ev F (.rpl ea eb))) := by
  refine PE.imp (pe_op op_rep ha hb) fun σ H Q ⟨W, A, ρ, rr, ρ', S, he, q⟩ => ?_
  unfold ev at he
  obtain ⟨⟨ra, ρ1⟩, h1, he⟩ := bnd_inv he
  obtain ⟨⟨rb, ρ2⟩, h2, he⟩ := bnd_inv he
  obtain ⟨xs, hx, he⟩ := bnd_inv he
  obtain ⟨d, hd, he⟩ := bnd_inv he
  obtain ⟨k, hk, he⟩ := bnd_inv he
  split at he
  · rename_i sm
    cases he
    simp only [Bool.and_eq_true, decide_eq_true_eq] at sm
    have hx := ofO_inv hx
    unfold newLD at hx
    split at hx
    · cases hx
      refine ⟨W, A, ρ, _, ρ1, S, h1, fun va H1 e1 p1 => ?_⟩
      obtain ⟨a0, rfl, hn, S1, m1⟩ := p1
      refine ⟨{ W with D := a0 :: W.D }, A, ρ1, _, _, S1, h2, fun vb H2 e2 p2 => ?_⟩
      obtain ⟨S2, l2⟩ := p2.held S1
      have r := l2.keep (ofO_inv hd)
      have hk := ofO_inv hk
      cases d <;> first | (cases hk; done) | skip
      cases hk
      cases r.int_inv
      cases m1 with
      | l hl rl =>
        rename_i vs
        have nD : a0 ∉ ow A := fun z => by
          obtain ⟨j, hj⟩ := ow_at2 z
          exact S1.dsj j a0 hj List.mem_cons_self
        have h2l : H2 a0 = some (.lst vs) := e2.keep _ _ hl (.inl nD)
        have sb : ∀ b, b ∈ Lk W A → b ∈ Lk { W with D := a0 :: W.D } A := fun b q => by
          rcases List.mem_append.mp q with q | q
          · exact List.mem_append_left _ (List.mem_cons_of_mem _ q)
          · exact List.mem_append_right _ q
        have S3 : Sim X.K W A H2 _ σ := S2.less (W := { W with D := a0 :: W.D }) fun b q => List.mem_cons_of_mem _ q
        have r2 : RepAll X.K (Lk W A) H2 xs vs := (rl.ext e2 ow_Lk).sub sb
        have hl2 := r2.length
        refine ⟨a0, k, vs, rfl, rfl, h2l, by omega, by omega, ?_, fun p hp => ?_⟩
        · rw [sizeLine_eq, ← hl2]
          have a1 : xs.length * k.toNat ≤ 1000 * 1000 := Nat.mul_le_mul (by omega) (by omega)
          omega
        · obtain ⟨p1, e3⟩ := (newL hp (r2.rep k.toNat)).post S3 (e1.trans e2).dom
          exact q _ _ ((e1.trans e2).trans e3.nil) p1
    · cases hx
  · cases he
theorem e_neg (ha : PE X a (tV X.K (ev F ea))) : PE X (.UnaryOp .USub a pos) (tV X.K (ev F (.neg ea))) := by
  refine PE.imp (pe_un un_neg ha) fun σ H Q ⟨W, A, ρ, rr, ρ', S, he, q⟩ => ?_
  unfold ev at he
  obtain ⟨⟨ra, ρ1⟩, h1, he⟩ := bnd_inv he
  obtain ⟨x, hx, he⟩ := bnd_inv he
  obtain ⟨i, hi, he⟩ := bnd_inv he
  cases he
  refine tV.mk S h1 fun va H1 e1 S1 l1 => ?_
  have r := l1.keep (ofO_inv hx)
  have hi := ofO_inv hi
  cases x <;> first | (cases hi; done) | skip
  cases hi
  cases r.int_inv
  exact ⟨_, rfl, q _ H1 e1 ⟨S1, .int _⟩⟩
theorem e_cmp {op : Co} (hu : X.A.units + 200 < cLine) (ha : PE X a (tV X.K (ev F ea))) (hb : PE X b (tV X.K (ev F eb))) (hm : behindInMarks op.py b = false) : PE X (.Compare a [op.py] [b] pos) (tV X.K (ev F (.cmp op ea eb))) := by
  refine PE.imp (pe_cmpR (cmp_ok (by omega) op) ha hb hm) fun σ H Q ⟨W, A, ρ, rr, ρ', S, he, q⟩ => ?_
  unfold ev at he
  obtain ⟨⟨ra, ρ1⟩, h1, he⟩ := bnd_inv he
  obtain ⟨⟨rb, ρ2⟩, h2, he⟩ := bnd_inv he
  obtain ⟨x, hx, he⟩ := bnd_inv he
  obtain ⟨y, hy, he⟩ := bnd_inv he
  obtain ⟨k, hk, he⟩ := bnd_inv he
  cases he
  exact tV.mk S h1 fun va H1 e1 S1 l1 => tV.mk S1 h2 fun vb H2 e2 S2 l2 => ⟨_, x, y, k, (l1.ext e2).look S2 (ofO_inv hx), l2.look S2 (ofO_inv hy), ofO_inv hk, q _ H2 (e1.trans e2) ⟨S2, .bl k⟩⟩
theorem e_chn {op op2 : Co} (hu : X.A.units + 200 < cLine) (ha : PE X a (tV X.K (ev F ea))) (hb : PE X b (tV X.K (ev F eb))) (hc : PE X c (tV X.K (ev F ec))) (hm : lastMarks [op.py, op2.py] [b, c] = false) :
    PE X (.Compare a [op.py, op2.py] [b, c] pos) (tV X.K (ev F (.chn op op2 ea eb ec))) := by
  refine PE.imp (pe_chain (cmp_ok (by omega) op) (cmp_ok (by omega) op2) ha hb hc hm) fun σ H Q ⟨W, A, ρ, rr, ρ', S, he, q⟩ => ?_
  unfold ev at he
  obtain ⟨⟨ra, ρ1⟩, h1, he⟩ := bnd_inv he
  obtain ⟨⟨rb, ρ2⟩, h2, he⟩ := bnd_inv he
  obtain ⟨x, hx, he⟩ := bnd_inv he
  obtain ⟨y, hy, he⟩ := bnd_inv he
  obtain ⟨k, hk, he⟩ := bnd_inv he
  refine tV.mk S h1 fun va H1 e1 S1 l1 => tV.mk S1 h2 fun vb H2 e2 S2 l2 => ⟨_, x, y, k, .of ((l1.ext e2).keep (ofO_inv hx)), .of (l2.keep (ofO_inv hy)), ofO_inv hk, k, rfl, ?_⟩
  cases k with
  | false =>
    cases he
    exact iteF (q _ H2 (e1.trans e2) ⟨S2, .bl false⟩)
  | true =>
    refine iteT ?_
    rw [if_pos rfl] at he
    obtain ⟨⟨rc, ρ3⟩, h3, he⟩ := bnd_inv he
    obtain ⟨z, hz, he⟩ := bnd_inv he
    obtain ⟨k2, hk2, he⟩ := bnd_inv he
    cases he
    exact tV.mk S2 h3 fun vc H3 e3 S3 l3 => ⟨_, y, z, k2, .of ((l2.ext e3).keep (ofO_inv hy)), .of (l3.keep (ofO_inv hz)), ofO_inv hk2, q _ H3 ((e1.trans e2).trans e3) ⟨S3, .bl k2⟩⟩
theorem Rep.none_iff {K : PySem.W.Frag} {L : List Addr} {H : Hp} {d : PyData} {v : V} (r : Rep K L H d v) : decide (v = .non) = isNonD d := by
  cases r <;> simp [isNonD]
theorem Rep.none_iff' {K : PySem.W.Frag} {L : List Addr} {H : Hp} {d : PyData} {v : V} (r : Rep K L H d v) : (!decide (v = .non)) = !isNonD d := by
  cases r <;> simp [isNonD]
theorem e_isn {k : Nat} {p2 : Pos} (ha : PE X a (tV X.K (ev F ea))) : PE X (.Compare a [.Is] [.Constant .none k p2] pos) (tV X.K (ev F (.isn ea))) := by
  refine PE.imp (pe_cmp (pc_isN ha) (nobehind _ (by decide) (by decide))) fun σ H Q ⟨W, A, ρ, rr, ρ', S, he, q⟩ => ?_
  unfold ev at he
  obtain ⟨⟨ra, ρ1⟩, h1, he⟩ := bnd_inv he
  obtain ⟨x, hx, he⟩ := bnd_inv he
  cases he
  refine tV.mk S h1 fun va H1 e1 S1 l1 => ?_
  rw [(l1.keep (ofO_inv hx)).none_iff]
  exact q _ H1 e1 ⟨S1, .bl _⟩
theorem e_nis {k : Nat} {p2 : Pos} (ha : PE X a (tV X.K (ev F ea))) : PE X (.Compare a [.IsNot] [.Constant .none k p2] pos) (tV X.K (ev F (.nis ea))) := by
  refine PE.imp (pe_cmp (pc_notN ha) (nobehind _ (by decide) (by decide))) fun σ H Q ⟨W, A, ρ, rr, ρ', S, he, q⟩ => ?_
  unfold ev at he
  obtain ⟨⟨ra, ρ1⟩, h1, he⟩ := bnd_inv he
  obtain ⟨x, hx, he⟩ := bnd_inv he
  cases he
  refine tV.mk S h1 fun va H1 e1 S1 l1 => ?_
  rw [(l1.keep (ofO_inv hx)).none_iff']
  exact q _ H1 e1 ⟨S1, .bl _⟩
/-- a bool's answer -/
theorem isB_inv {r : RV} {k : Bool} (h : ofO (isB r) = .ok k) : r = .v (.bool k) := by
  have h := ofO_inv h
  unfold isB at h
  split at h
  · cases h; rfl
  · cases h
theorem e_not (ha : PE X a (tV X.K (ev F ea))) : PE X (.UnaryOp .Not a pos) (tV X.K (ev F (.not ea))) := by
  refine PE.imp (pe_not ha) fun σ H Q ⟨W, A, ρ, rr, ρ', S, he, q⟩ => ?_
  unfold ev at he
  obtain ⟨⟨ra, ρ1⟩, h1, he⟩ := bnd_inv he
  obtain ⟨k, hk, he⟩ := bnd_inv he
  cases he
  cases isB_inv hk
  refine tV.mk S h1 fun va H1 e1 S1 l1 => ?_
  cases Rep.bool_inv l1
  exact ⟨k, rfl, q _ H1 e1 ⟨S1, .bl _⟩⟩
theorem e_and {l : List Expr} (ha : PE X a (tV X.K (ev F ea))) (hb : PE X (.BoolOp .And (b :: l) pos) (tV X.K (ev F eb))) : PE X (.BoolOp .And (a :: b :: l) pos) (tV X.K (ev F (.and ea eb))) := by
  refine PE.imp (pe_and ha hb) fun σ H Q ⟨W, A, ρ, rr, ρ', S, he, q⟩ => ?_
  unfold ev at he
  obtain ⟨⟨ra, ρ1⟩, h1, he1⟩ := bnd_inv he
  obtain ⟨k, hk, he2⟩ := bnd_inv he1
  have hz := isB_inv hk
  clear he he1 hk
  subst hz
  refine tV.mk S h1 fun va H1 e1 S1 l1 => ?_
  cases Rep.bool_inv l1
  refine ⟨k, rfl, ?_⟩
  cases k with
  | false => cases he2; exact iteF (q _ H1 e1 ⟨S1, .bl _⟩)
  | true =>
    refine iteT ?_
    rw [if_pos rfl] at he2
    obtain ⟨⟨rb, ρ2⟩, h2, he3⟩ := bnd_inv he2
    obtain ⟨k2, hk2, he4⟩ := bnd_inv he3
    have hy := isB_inv hk2
    clear he2 he3 hk2
    subst hy
    cases he4
    exact tV.mk S1 h2 fun vb H2 e2 S2 l2 => q _ H2 (e1.trans e2) ⟨S2, l2⟩
theorem e_or {l : List Expr} (ha : PE X a (tV X.K (ev F ea))) (hb : PE X (.BoolOp .Or (b :: l) pos) (tV X.K (ev F eb))) : PE X (.BoolOp .Or (a :: b :: l) pos) (tV X.K (ev F (.or ea eb))) := by
  refine PE.imp (pe_or ha hb) fun σ H Q ⟨W, A, ρ, rr, ρ', S, he, q⟩ => ?_
  unfold ev at he
  obtain ⟨⟨ra, ρ1⟩, h1, he1⟩ := bnd_inv he
  obtain ⟨k, hk, he2⟩ := bnd_inv he1
  have hz := isB_inv hk
  clear he he1 hk
  subst hz
  refine tV.mk S h1 fun va H1 e1 S1 l1 => ?_
  cases Rep.bool_inv l1
  refine ⟨k, rfl, ?_⟩
  cases k with
  | true => cases he2; exact iteT (q _ H1 e1 ⟨S1, .bl _⟩)
  | false =>
    refine iteF ?_
    rw [if_neg Bool.false_ne_true] at he2
    obtain ⟨⟨rb, ρ2⟩, h2, he3⟩ := bnd_inv he2
    obtain ⟨k2, hk2, he4⟩ := bnd_inv he3
    have hy := isB_inv hk2
    clear he2 he3 hk2
    subst hy
    cases he4
    exact tV.mk S1 h2 fun vb H2 e2 S2 l2 => q _ H2 (e1.trans e2) ⟨S2, l2⟩
/-- a test's answer -/
def evB (F : Fn) (e : E) : EvB := fun ρ => (ev F e ρ).bnd fun (x, ρ1) => (ofO (isB x)).bnd fun k => .ok (k, ρ1)
def tB2 (K : PySem.W.Frag) (f : EvB) : TT := fun σ H Q => ∃ (W : Wd) (A : Own) (ρ : Env) (k : Bool) (ρ' : Env), Sim K W A H ρ σ ∧ f ρ = .ok (k, ρ') ∧ ∀ H', Ext (ow A) H H' → Sim K W A H' ρ' σ → Q k H'
theorem tB2.mk {K : PySem.W.Frag} {W : Wd} {A : Own} {ρ ρ' : Env} {σ : St} {H : Hp} {f : EvB} {k : Bool} {Q : Bool → Hp → Prop} (S : Sim K W A H ρ σ) (h : f ρ = .ok (k, ρ')) (q : ∀ H', Ext (ow A) H H' → Sim K W A H' ρ' σ → Q k H') : tB2 K f σ H Q :=
  ⟨W, A, ρ, k, ρ', S, h, q⟩
theorem evB_inv {e : E} {ρ ρ1 : Env} {k : Bool} (h : evB F e ρ = .ok (k, ρ1)) : ev F e ρ = .ok (.v (.bool k), ρ1) := by
  unfold evB at h
  obtain ⟨⟨x, ρ2⟩, h1, h⟩ := bnd_inv h
  obtain ⟨k2, h2, h⟩ := bnd_inv h
  cases h
  cases isB_inv h2
  exact h1
theorem evB_of {e : E} {ρ ρ1 : Env} {k : Bool} (h : ev F e ρ = .ok (.v (.bool k), ρ1)) : evB F e ρ = .ok (k, ρ1) := by
  unfold evB
  rw [h] <;> rfl
theorem t_val {e : E} (h : PE X a (tV X.K (ev F e))) (he : ∀ whole, isTrue a X.env whole = (do let v ← whole; standAt a.pos; holding [v] (truthy v))) : PT X a (tB2 X.K (evB F e)) := by
  refine PT.imp (pt_val h he) fun σ H Q ⟨W, A, ρ, k, ρ', S, hf, q⟩ => ?_
  refine tV.mk S (evB_inv hf) fun v H' e1 S1 l1 => ?_
  cases Rep.bool_inv l1
  exact ⟨k, rfl, q H' e1 S1⟩
theorem t_cmp {op : Co} (hu : X.A.units + 200 < cLine) (ha : PE X a (tV X.K (ev F ea))) (hb : PE X b (tV X.K (ev F eb))) (hm : behindInMarks op.py b = false) : PT X (.Compare a [op.py] [b] pos) (tB2 X.K (evB F (.cmp op ea eb))) := by
  refine PT.imp (pt_cmpR (cmp_ok (by omega) op) ha hb hm) fun σ H Q ⟨W, A, ρ, k0, ρ', S, he, q⟩ => ?_
  have he := evB_inv he
  unfold ev at he
  obtain ⟨⟨ra, ρ1⟩, h1, he⟩ := bnd_inv he
  obtain ⟨⟨rb, ρ2⟩, h2, he⟩ := bnd_inv he
  obtain ⟨x, hx, he⟩ := bnd_inv he
  obtain ⟨y, hy, he⟩ := bnd_inv he
  obtain ⟨k, hk, he⟩ := bnd_inv he
  cases he
  exact tV.mk S h1 fun va H1 e1 S1 l1 => tV.mk S1 h2 fun vb H2 e2 S2 l2 => ⟨_, x, y, _, (l1.ext e2).look S2 (ofO_inv hx), l2.look S2 (ofO_inv hy), ofO_inv hk, _, rfl, q H2 (e1.trans e2) S2⟩
theorem t_chn {op op2 : Co} (hu : X.A.units + 200 < cLine) (ha : PE X a (tV X.K (ev F ea))) (hb : PE X b (tV X.K (ev F eb))) (hc : PE X c (tV X.K (ev F ec))) (hm : lastMarks [op.py, op2.py] [b, c] = false) :
    PT X (.Compare a [op.py, op2.py] [b, c] pos) (tB2 X.K (evB F (.chn op op2 ea eb ec))) := by
  refine PT.imp (pt_chain (cmp_ok (by omega) op) (cmp_ok (by omega) op2) ha hb hc hm) fun σ H Q ⟨W, A, ρ, k0, ρ', S, he, q⟩ => ?_
  have he := evB_inv he
  unfold ev at he
  obtain ⟨⟨ra, ρ1⟩, h1, he⟩ := bnd_inv he
  obtain ⟨⟨rb, ρ2⟩, h2, he⟩ := bnd_inv he
  obtain ⟨x, hx, he⟩ := bnd_inv he
  obtain ⟨y, hy, he⟩ := bnd_inv he
  obtain ⟨k, hk, he⟩ := bnd_inv he
  refine tV.mk S h1 fun va H1 e1 S1 l1 => tV.mk S1 h2 fun vb H2 e2 S2 l2 => ⟨_, x, y, k, .of ((l1.ext e2).keep (ofO_inv hx)), .of (l2.keep (ofO_inv hy)), ofO_inv hk, k, rfl, ?_⟩
  cases k with
  | false =>
    cases he
    exact iteF ⟨false, rfl, q H2 (e1.trans e2) S2⟩
  | true =>
    refine iteT ?_
    rw [if_pos rfl] at he
    obtain ⟨⟨rc, ρ3⟩, h3, he⟩ := bnd_inv he
    obtain ⟨z, hz, he⟩ := bnd_inv he
    obtain ⟨k2, hk2, he⟩ := bnd_inv he
    cases he
    exact tV.mk S2 h3 fun vc H3 e3 S3 l3 => ⟨_, y, z, _, .of ((l2.ext e3).keep (ofO_inv hy)), .of (l3.keep (ofO_inv hz)), ofO_inv hk2, _, rfl, q H3 ((e1.trans e2).trans e3) S3⟩
theorem t_isn {k : Nat} {p2 : Pos} (ha : PE X a (tV X.K (ev F ea))) : PT X (.Compare a [.Is] [.Constant .none k p2] pos) (tB2 X.K (evB F (.isn ea))) := by
  refine PT.imp (pt_cmp (pc_isN ha) (nobehind _ (by decide) (by decide))) fun σ H Q ⟨W, A, ρ, k0, ρ', S, he, q⟩ => ?_
  have he := evB_inv he
  unfold ev at he
  obtain ⟨⟨ra, ρ1⟩, h1, he⟩ := bnd_inv he
  obtain ⟨x, hx, he⟩ := bnd_inv he
  cases he
  refine tV.mk S h1 fun va H1 e1 S1 l1 => ⟨_, congrArg V.bl (l1.keep (ofO_inv hx)).none_iff, q H1 e1 S1⟩
theorem t_nis {k : Nat} {p2 : Pos} (ha : PE X a (tV X.K (ev F ea))) : PT X (.Compare a [.IsNot] [.Constant .none k p2] pos) (tB2 X.K (evB F (.nis ea))) := by
  refine PT.imp (pt_cmp (pc_notN ha) (nobehind _ (by decide) (by decide))) fun σ H Q ⟨W, A, ρ, k0, ρ', S, he, q⟩ => ?_
  have he := evB_inv he
  unfold ev at he
  obtain ⟨⟨ra, ρ1⟩, h1, he⟩ := bnd_inv he
  obtain ⟨x, hx, he⟩ := bnd_inv he
  cases he
  refine tV.mk S h1 fun va H1 e1 S1 l1 => ⟨_, congrArg V.bl (l1.keep (ofO_inv hx)).none_iff', q H1 e1 S1⟩
theorem t_not (ha : PT X a (tB2 X.K (evB F ea))) : PT X (.UnaryOp .Not a pos) (tB2 X.K (evB F (.not ea))) := by
  refine PT.imp (pt_not ha) fun σ H Q ⟨W, A, ρ, k0, ρ', S, he, q⟩ => ?_
  have he := evB_inv he
  unfold ev at he
  obtain ⟨⟨ra, ρ1⟩, h1, he⟩ := bnd_inv he
  obtain ⟨k, hk, he⟩ := bnd_inv he
  cases he
  cases isB_inv hk
  exact tB2.mk S (evB_of h1) fun H1 e1 S1 => q H1 e1 S1
theorem w_and1 (ha : PT X a (tB2 X.K (evB F ea))) : PW X (.BoolOp .And [a] pos) (tB2 X.K (evB F ea)) := pw_and1 ha
theorem w_or1 (ha : PT X a (tB2 X.K (evB F ea))) : PW X (.BoolOp .Or [a] pos) (tB2 X.K (evB F ea)) := pw_or1 ha
theorem w_and {l : List Expr} (ha : PT X a (tB2 X.K (evB F ea))) (hb : PW X (.BoolOp .And (b :: l) pos) (tB2 X.K (evB F eb))) : PW X (.BoolOp .And (a :: b :: l) pos) (tB2 X.K (evB F (.and ea eb))) := by
  refine PW.imp (pw_and ha hb) fun σ H Q ⟨W, A, ρ, k0, ρ', S, he, q⟩ => ?_
  have he := evB_inv he
  unfold ev at he
  obtain ⟨⟨ra, ρ1⟩, h1, he1⟩ := bnd_inv he
  obtain ⟨k, hk, he2⟩ := bnd_inv he1
  have hz := isB_inv hk
  clear he he1 hk
  subst hz
  refine tB2.mk S (evB_of h1) fun H1 e1 S1 => ?_
  cases k with
  | false => cases he2; exact iteF (q H1 e1 S1)
  | true =>
    refine iteT ?_
    rw [if_pos rfl] at he2
    obtain ⟨⟨rb, ρ2⟩, h2, he3⟩ := bnd_inv he2
    obtain ⟨k2, hk2, he4⟩ := bnd_inv he3
    have hy := isB_inv hk2
    clear he2 he3 hk2
    subst hy
    cases he4
    exact tB2.mk S1 (evB_of h2) fun H2 e2 S2 => q H2 (e1.trans e2) S2
theorem w_or {l : List Expr} (ha : PT X a (tB2 X.K (evB F ea))) (hb : PW X (.BoolOp .Or (b :: l) pos) (tB2 X.K (evB F eb))) : PW X (.BoolOp .Or (a :: b :: l) pos) (tB2 X.K (evB F (.or ea eb))) := by
  refine PW.imp (pw_or ha hb) fun σ H Q ⟨W, A, ρ, k0, ρ', S, he, q⟩ => ?_
  have he := evB_inv he
  unfold ev at he
  obtain ⟨⟨ra, ρ1⟩, h1, he1⟩ := bnd_inv he
  obtain ⟨k, hk, he2⟩ := bnd_inv he1
  have hz := isB_inv hk
  clear he he1 hk
  subst hz
  refine tB2.mk S (evB_of h1) fun H1 e1 S1 => ?_
  cases k with
  | true => cases he2; exact iteT (q H1 e1 S1)
  | false =>
    refine iteF ?_
    rw [if_neg Bool.false_ne_true] at he2
    obtain ⟨⟨rb, ρ2⟩, h2, he3⟩ := bnd_inv he2
    obtain ⟨k2, hk2, he4⟩ := bnd_inv he3
    have hy := isB_inv hk2
    clear he2 he3 hk2
    subst hy
    cases he4
    exact tB2.mk S1 (evB_of h2) fun H2 e2 S2 => q H2 (e1.trans e2) S2
theorem e_ife (hc : PT X c (tB2 X.K (evB F ec))) (ha : PE X a (tV X.K (ev F ea))) (hb : PE X b (tV X.K (ev F eb))) : PE X (.IfExp c a b pos) (tV X.K (ev F (.ife ec ea eb))) := by
  refine PE.imp (pe_ifExp hc ha hb) fun σ H Q ⟨W, A, ρ, rr, ρ', S, he, q⟩ => ?_
  unfold ev at he
  obtain ⟨⟨ra, ρ1⟩, h1, he1⟩ := bnd_inv he
  obtain ⟨k, hk, he2⟩ := bnd_inv he1
  have hz := isB_inv hk
  clear he he1 hk
  subst hz
  refine tB2.mk S (evB_of h1) fun H1 e1 S1 => ?_
  have post : ∀ {H2 v}, Ext (ow A) H1 H2 → PostV X.K W A H1 H2 ρ' σ v rr → PostV X.K W A H H2 ρ' σ v rr := fun {H2 v} _ p => by
    cases rr with
    | v d => exact p
    | m o =>
      obtain ⟨p1, p2, p3, p4⟩ := p
      exact ⟨p1, p2, e1.dom _ p3, p4⟩
    | b i => exact p
    | f g x => exact p
    | mt o d =>
      obtain ⟨p0, p1, p2, p3, p4, p5, p6⟩ := p
      exact ⟨p0, p1, p2, p3, p4, e1.dom _ p5, p6⟩
  cases k with
  | true =>
    rw [if_pos rfl] at he2
    exact iteT ⟨W, A, ρ1, rr, ρ', S1, he2, fun v H2 e2 p => q v H2 (e1.trans e2) (post e2 p)⟩
  | false =>
    rw [if_neg Bool.false_ne_true] at he2
    exact iteF ⟨W, A, ρ1, rr, ρ', S1, he2, fun v H2 e2 p => q v H2 (e1.trans e2) (post e2 p)⟩
theorem e_idx (hu : X.A.units + 200 < cLine) (ha : PE X a (tV X.K (ev F ea))) (hb : PE X b (tV X.K (ev F eb))) (hs : PlainIx b) : PE X (.Subscript a b pos) (tV X.K (ev F (.idx ea eb))) := by
  refine PE.imp (pe_ix (idx_ok (by omega)) ha hb hs) fun σ H Q ⟨W, A, ρ, rr, ρ', S, he, q⟩ => ?_
  unfold ev at he
  obtain ⟨⟨ra, ρ1⟩, h1, he⟩ := bnd_inv he
  obtain ⟨⟨rb, ρ2⟩, h2, he⟩ := bnd_inv he
  obtain ⟨x, hx, he⟩ := bnd_inv he
  obtain ⟨y, hy, he⟩ := bnd_inv he
  obtain ⟨d, hd, he⟩ := bnd_inv he
  cases he
  exact tV.mk S h1 fun va H1 e1 S1 l1 => tV.mk S1 h2 fun vb H2 e2 S2 l2 => ⟨_, x, y, d, (l1.ext e2).look S2 (ofO_inv hx), l2.keep (ofO_inv hy), ofO_inv hd, fun v r => q v H2 (e1.trans e2) ⟨S2, r⟩⟩
/-- a slice's part -/
def tO2 (K : PySem.W.Frag) (f : Env → Res (Option Int × Env)) : TO := fun σ H Q => ∃ (W : Wd) (A : Own) (ρ : Env) (k : Option Int) (ρ' : Env), Sim K W A H ρ σ ∧ f ρ = .ok (k, ρ') ∧ ∀ H', Ext (ow A) H H' → Sim K W A H' ρ' σ → Q k H'
theorem o_none : PO X none (tO2 X.K (evO F .none)) := by
  refine ⟨fun pins s σ H Q I ⟨W, A, ρ, k, ρ', S, he, q⟩ => po_none.run pins s σ H Q I ?_⟩
  unfold evO at he
  cases he
  exact q H (Ext.refl _ _) S
theorem o_some (ha : PE X a (tV X.K (ev F ea))) : PO X (some a) (tO2 X.K (evO F (.some ea))) := by
  refine ⟨fun pins s σ H Q I ⟨W, A, ρ, k, ρ', S, he, q⟩ => (po_some ha).run pins s σ H Q I ?_⟩
  unfold evO at he
  obtain ⟨⟨ra, ρ1⟩, h1, he⟩ := bnd_inv he
  obtain ⟨x, hx, he⟩ := bnd_inv he
  obtain ⟨i, hi, he⟩ := bnd_inv he
  cases he
  refine tV.mk S h1 fun va H1 e1 S1 l1 => ?_
  have r := l1.keep (ofO_inv hx)
  have hi := ofO_inv hi
  cases x <;> first | (cases hi; done) | skip
  cases hi
  cases r.int_inv
  exact ⟨_, rfl, q H1 e1 S1⟩
theorem e_slc {lo hi : Option Expr} {el eh : Oe} {p2 : Pos} (ha : PE X a (tV X.K (ev F ea))) (hl : PO X lo (tO2 X.K (evO F el))) (hh : PO X hi (tO2 X.K (evO F eh))) : PE X (.Subscript a (.Slice lo hi none p2) pos) (tV X.K (ev F (.slc ea el eh))) := by
  refine PE.imp (pe_slice slc_ok ha hl hh) fun σ H Q ⟨W, A, ρ, rr, ρ', S, he, q⟩ => ?_
  unfold ev at he
  obtain ⟨⟨ra, ρ1⟩, h1, he⟩ := bnd_inv he
  obtain ⟨⟨l, ρ2⟩, h2, he⟩ := bnd_inv he
  obtain ⟨⟨u, ρ3⟩, h3, he⟩ := bnd_inv he
  obtain ⟨x, hx, he⟩ := bnd_inv he
  obtain ⟨r0, hr, he⟩ := bnd_inv he
  cases he
  refine tV.mk S h1 fun va H1 e1 S1 l1 => ⟨W, A, ρ1, l, ρ2, S1, h2, fun H2 e2 S2 => ⟨W, A, ρ2, u, _, S2, h3, fun H3 e3 S3 => ⟨_, x, _, ((l1.ext e2).ext e3).look S3 (ofO_inv hx), ofO_inv hr, fun v H' nv => ?_⟩⟩⟩
  obtain ⟨p, e4⟩ := nv.post S3 ((e1.trans e2).trans e3).dom
  exact q v H' (((e1.trans e2).trans e3).trans e4.nil) p
end
end Rf

set_option Elab.async false
set_option linter.all false
set_option maxRecDepth 100000
set_option maxHeartbeats 4000000
/-! Rf7: displays, arguments, calls. -/
namespace Rf
open PySem PySem.Spec L2

theorem star_one {e : Expr} {es : List Expr} {env : PySem.Env} (h : starB e = false) : starEach (e :: es) env = (false, eval e env) :: starEach es env := by
  cases e <;> first | rfl | cases h
theorem star_none {env : PySem.Env} {pos : Pos} : ∀ {es : List Expr}, es.all (fun e => !starB e) = true → (backTo pos (starEach es env)).any (·.1) = false
  | [], _ => rfl
  | e :: es, h => by
    rw [List.all_cons, Bool.and_eq_true] at h
    rw [star_one (by simpa using h.1)]
    have ih := star_none (env := env) (pos := pos) h.2
    show (false || (backTo pos (starEach es env)).any (·.1)) = false
    rw [ih] <;> rfl
theorem star_all {env : PySem.Env} {pos : Pos} : ∀ {es : List Expr}, es.all (fun e => !starB e) = true → (backTo pos (starEach es env)).all (fun x => !x.1) = true
  | [], _ => rfl
  | e :: es, h => by
    rw [List.all_cons, Bool.and_eq_true] at h
    rw [star_one (by simpa using h.1)]
    have ih := star_all (env := env) (pos := pos) h.2
    show (!false && (backTo pos (starEach es env)).all (fun x => !x.1)) = true
    rw [ih] <;> rfl
theorem star_few {env : PySem.Env} {pos : Pos} {es : List Expr} (h : es.all (fun e => !starB e) = true) (hl : es.length < 10) :
    ((backTo pos (starEach es env)).all (fun x => !x.1) && (backToKw pos (keywordEach [] env)).all (fun x => x.1.isSome) && decide (es.length + ([] : List Keyword).length + (if ([] : List Keyword).isEmpty then 0 else 1) < 30)) = true := by
  rw [star_all h]
  have : decide (es.length + ([] : List Keyword).length + (if ([] : List Keyword).isEmpty then 0 else 1) < 30) = true := decide_eq_true (by simp; omega)
  rw [this] <;> rfl

def tK (K : PySem.W.Frag) (f : Env → Res (List PyData × Env)) : TA := fun σ H Q => ∃ (W : Wd) (A : Own) (ρ : Env) (ds : List PyData) (ρ' : Env), Sim K W A H ρ σ ∧ f ρ = .ok (ds, ρ') ∧ ∀ vs H', Ext (ow A) H H' → Sim K W A H' ρ' σ → RepAll K (Lk W A) H' ds vs → Q vs H'
def HeldAll (K : PySem.W.Frag) (W : Wd) (A : Own) (H : Hp) (σ : St) : List RV → List V → Prop := Paired fun r v => Held K W A H σ v r
def tA (K : PySem.W.Frag) (f : Env → Res (List RV × Env)) : TA := fun σ H Q => ∃ (W : Wd) (A : Own) (ρ : Env) (rs : List RV) (ρ' : Env), Sim K W A H ρ σ ∧ f ρ = .ok (rs, ρ') ∧ ∀ vs H', Ext (ow A) H H' → Sim K W A H' ρ' σ → HeldAll K W A H' σ rs vs → Q vs H'
section
variable {X : Cx} {F : Fn} {a : Expr} {es : List Expr} {ea : E} {ees : Es} {pos : Pos}
theorem k_nil : PA X [] (tK X.K (evK F .nil)) := by
  refine PA.imp pa_nil fun σ H Q ⟨W, A, ρ, ds, ρ', S, he, q⟩ => ?_
  unfold evK at he
  cases he
  exact q [] H (Ext.refl _ _) S .nil
theorem k_cons (ha : PE X a (tV X.K (ev F ea))) (hs : PA X es (tK X.K (evK F ees))) (hb : starB a = false) : PA X (a :: es) (tK X.K (evK F (.cons ea ees))) := by
  refine PA.imp (pa_cons ha hs (star_one hb)) fun σ H Q ⟨W, A, ρ, ds, ρ', S, he, q⟩ => ?_
  unfold evK at he
  obtain ⟨⟨ra, ρ1⟩, h1, he⟩ := bnd_inv he
  obtain ⟨x, hx, he⟩ := bnd_inv he
  obtain ⟨⟨xs, ρ2⟩, h2, he⟩ := bnd_inv he
  cases he
  exact tV.mk S h1 fun va H1 e1 S1 l1 => ⟨W, A, ρ1, xs, _, S1, h2, fun vs H2 e2 S2 r2 => q _ H2 (e1.trans e2) S2 (.cons ((l1.keep (ofO_inv hx)).ext e2 ow_Lk) r2)⟩
theorem a_nil : PA X [] (tA X.K (evA F .nil)) := by
  refine PA.imp pa_nil fun σ H Q ⟨W, A, ρ, ds, ρ', S, he, q⟩ => ?_
  unfold evA at he
  cases he
  exact q [] H (Ext.refl _ _) S .nil
theorem a_cons (ha : PE X a (tV X.K (ev F ea))) (hs : PA X es (tA X.K (evA F ees))) (hb : starB a = false) : PA X (a :: es) (tA X.K (evA F (.cons ea ees))) := by
  refine PA.imp (pa_cons ha hs (star_one hb)) fun σ H Q ⟨W, A, ρ, ds, ρ', S, he, q⟩ => ?_
  unfold evA at he
  obtain ⟨⟨ra, ρ1⟩, h1, he⟩ := bnd_inv he
  obtain ⟨⟨xs, ρ2⟩, h2, he⟩ := bnd_inv he
  cases he
  exact tV.mk S h1 fun va H1 e1 S1 l1 => ⟨W, A, ρ1, xs, _, S1, h2, fun vs H2 e2 S2 r2 => q _ H2 (e1.trans e2) S2 (.cons (l1.ext e2) r2)⟩
theorem e_tup {k : Nat} (h : PA X es (tK X.K (evK F ees))) : PE X (.Tuple es k pos) (tV X.K (ev F (.tup ees))) := by
  refine PE.imp (pe_tup h) fun σ H Q ⟨W, A, ρ, rr, ρ', S, he, q⟩ => ?_
  unfold ev at he
  obtain ⟨⟨ds, ρ1⟩, h1, he⟩ := bnd_inv he
  dsimp only at he
  split at he
  · rename_i hz
    cases he
    refine ⟨W, A, ρ, ds, _, S, h1, fun vs H1 e1 S1 r1 => ⟨by rw [← r1.length, ← lim_eq]; exact hz, fun p hp => ?_⟩⟩
    obtain ⟨p1, e2⟩ := (newT hp r1).post S1 e1.dom
    exact q _ _ (e1.trans e2.nil) p1
  · cases he
theorem e_lst (h : PA X es (tK X.K (evK F ees))) : PE X (.List es pos) (tV X.K (ev F (.lst ees))) := by
  refine PE.imp (pe_lst h) fun σ H Q ⟨W, A, ρ, rr, ρ', S, he, q⟩ => ?_
  unfold ev at he
  obtain ⟨⟨ds, ρ1⟩, h1, he⟩ := bnd_inv he
  dsimp only at he
  split at he
  · rename_i hz
    cases he
    refine ⟨W, A, ρ, ds, _, S, h1, fun vs H1 e1 S1 r1 => ⟨by rw [← r1.length, ← lim_eq]; exact hz, fun p hp => ?_⟩⟩
    obtain ⟨p1, e2⟩ := (newL hp r1).post S1 e1.dom
    exact q _ _ (e1.trans e2.nil) p1
  · cases he
theorem newD {K : PySem.W.Frag} {L : List Addr} {H : Hp} {p : Addr} {ks : List (Key × PyData)} {kvs : List (Key × V)} (hn : H p = none) (r : Paired (fun (p : Key × PyData) (q : Key × V) => p.1 = q.1 ∧ Rep K L H p.2 q.2) ks kvs) : NewV K L H (upd H p (.dK kvs)) (.ref p) (.m (.d ks)) := by
  have e := Ext.new (O := []) (.dK kvs) hn
  exact ⟨p, _, rfl, hn, rfl, .d upd_same (L2.Paired.mapP r fun p q z => ⟨z.1, z.2.ext e fun b z => absurd z (by simp)⟩), fun L' h => .d upd_same (L2.Paired.mapP r fun p q z => ⟨z.1, (z.2.add h).ext e fun b z => absurd z (by simp)⟩)⟩
theorem RepKs.own {K : PySem.W.Frag} {L : List Addr} {H : Hp} : ∀ {ps : List (PyData × PyData)} {kvs : List (Key × V)}, RepKs K L H ps kvs → ∀ ks, dictK ps = some ks → Paired (fun (p : Key × PyData) (q : Key × V) => p.1 = q.1 ∧ Rep K L H p.2 q.2) ks kvs
  | _, _, .nil, ks, h => by cases h; exact .nil
  | _, _, .cons (k := k) (ps := ps) r rs, ks, h => by
    have e : dK (kD k) = some k := by cases k <;> rfl
    simp only [dictK, e, Option.bind_some, Option.map_eq_some_iff] at h
    obtain ⟨r', h1, rfl⟩ := h
    exact .cons ⟨rfl, r⟩ (RepKs.own rs r' h1)
theorem dict_ok : CallR X (.type "dict") (rPrm X.K .dict) := by
  rintro pins s σ H xs us Q I rs ⟨L, ds, r, t, hf, q⟩
  unfold primD at hf
  split at hf <;> first | (cases hf; done) | skip
  all_goals try (rename_i h; cases h)
  · rw [Option.map_eq_some_iff] at hf
    obtain ⟨ks, h1, rfl⟩ := hf
    obtain ⟨x, rfl, t1⟩ := tops1 t
    obtain ⟨a, kvs, rfl, ha, rk⟩ := t1.dict_inv
    exact call_dictD pins s σ H _ us Q I rs ⟨a, kvs, rfl, .inl ha, fun p hp => q _ _ (newD hp (rk.own ks h1))⟩
theorem e_dic0 : PE X (.Dict [] [] pos) (tV X.K (ev F .dic0)) := by
  refine PE.imp pe_dnewK fun σ H Q ⟨W, A, ρ, rr, ρ', S, he, q⟩ => ?_
  unfold ev at he
  cases he
  intro p hp
  obtain ⟨p1, e2⟩ := (newD (K := X.K) (L := Lk W A) hp .nil).post S (fun _ z => z)
  exact q _ _ e2.nil p1

/-! ### the built-in functions -/
theorem looks {K : PySem.W.Frag} {W : Wd} {A : Own} {H : Hp} {ρ : Env} {σ : St} (S : Sim K W A H ρ σ) : ∀ {rs : List RV} {vs : List V} {ds : List PyData}, HeldAll K W A H σ rs vs → rs.mapM (look ρ) = some ds → Paired (Top K (Lk W A) H) ds vs
  | _, _, ds, .nil, h => by
    have h : some [] = some ds := by simpa using h
    cases h; exact .nil
  | r :: rs, v :: vs, ds, .cons h t, e => by
    rw [List.mapM_cons] at e
    cases e1 : look ρ r with
    | none => rw [e1] at e; cases e
    | some d =>
      rw [e1] at e
      cases e2 : rs.mapM (look ρ) with
      | none => rw [e2] at e; cases e
      | some ds' =>
        rw [e2] at e
        have e : some (d :: ds') = some ds := e
        cases e
        exact .cons (h.look S e1) (looks S t e2)
theorem e_prm {p : Pm} {x : Expr} {y : Str} {p1 : Pos} (h : PA X (x :: es) (tA X.K (evA F ees))) (hb : (x :: es).all (fun e => !starB e) = true)
    (hc : ∀ t, PA X (x :: es) t → PE X (.Call (.Name y p1) (x :: es) [] pos) (tCB (rPrm X.K p) t)) : PE X (.Call (.Name y p1) (x :: es) [] pos) (tV X.K (ev F (.prm p ees))) := by
  refine PE.imp (hc _ h) fun σ H Q ⟨W, A, ρ, rr, ρ', S, he, q⟩ => ?_
  unfold ev at he
  obtain ⟨⟨rs, ρ1⟩, h1, he⟩ := bnd_inv he
  obtain ⟨ds, hd, he⟩ := bnd_inv he
  obtain ⟨r0, hr, he⟩ := bnd_inv he
  cases he
  refine ⟨W, A, ρ, rs, _, S, h1, fun vs H1 e1 S1 r1 => ⟨_, ds, _, looks S1 r1 (ofO_inv hd), ofO_inv hr, fun v H' nv => ?_⟩⟩
  obtain ⟨p1, e2⟩ := nv.post S1 e1.dom
  exact q _ _ (e1.trans e2.nil) p1
theorem gl_of {sc : Scope} {x : Str} (hs : X.env.scope = sc) (h : glB sc x = true) : Gl X x ∧ (x == ("__debug__" : Str)) = false := by
  unfold glB at h
  rw [Bool.and_eq_true] at h
  refine ⟨?_, by simpa using h.2⟩
  show X.env.scope.names.lookup x = _
  rw [hs]
  exact of_decide_eq_true h.1
theorem free_of {G : Gd} {sc : Scope} {x : Str} (hs : X.env.scope = sc) (c : Ctx X F G) (h : freeB G sc x = true) : Gl X x ∧ X.mg x = none ∧ x ≠ "__name__" ∧ (x == ("__debug__" : Str)) = false := by
  unfold freeB at h
  rw [Bool.and_eq_true, Bool.and_eq_true] at h
  obtain ⟨⟨h1, h2⟩, h3⟩ := h
  obtain ⟨g1, g2⟩ := gl_of hs h1
  exact ⟨g1, c.free x (of_decide_eq_true h2), by simpa using h3, g2⟩
theorem prm_call {G : Gd} {sc : Scope} (hs : X.env.scope = sc) (c : Ctx X F G) {p : Pm} {y : Str} {x : Expr} {p1 : Pos} (hp : p ≠ .tupRev) (hy : y = p.nm) (hf : freeB G sc y = true) (hb : (x :: es).all (fun e => !starB e) = true) (t : TA) (h : PA X (x :: es) t) :
    PE X (.Call (.Name y p1) (x :: es) [] pos) (tCB (rPrm X.K p) t) := by
  obtain ⟨g, m, n, d⟩ := free_of hs c hf
  have hb' := hb
  rw [List.all_cons, Bool.and_eq_true] at hb'
  have s1 := star_one (es := es) (env := X.env) (show starB x = false by simpa using hb'.1)
  have s2 := star_none (env := X.env) (pos := pos) hb'.2
  have u := c.units
  subst hy
  cases p with
  | len => exact pe_callB len_ok g m PySem.boot_len h n d s1 s2
  | tuple => exact pe_callTy tuple_ok g m PyProof.Rows.boot_tuple h n d s1 s2
  | list => exact pe_callTy (list_ok c.calm) g m PyProof.Rows.boot_list h n d s1 s2
  | all => exact pe_callB (all_ok c.calm) g m (by decide +kernel) h n d s1 s2
  | any => exact pe_callB (any_ok c.calm) g m (by decide +kernel) h n d s1 s2
  | sum => exact pe_callB (sum_ok c.calm) g m (by decide +kernel) h n d s1 s2
  | min => exact pe_callB (min_ok c.calm) g m (by decide +kernel) h n d s1 s2
  | max => exact pe_callB (max_ok c.calm) g m (by decide +kernel) h n d s1 s2
  | min2 => exact pe_callB (min2_ok c.calm) g m (by decide +kernel) h n d s1 s2
  | max2 => exact pe_callB (max2_ok c.calm) g m (by decide +kernel) h n d s1 s2
  | sorted => exact pe_callB sorted_ok g m (by decide +kernel) h n d s1 s2
  | sortP => exact pe_callB sortP_ok g m (by decide +kernel) h n d s1 s2
  | int => exact pe_callTy int_ok g m PyProof.Rows.boot_int h n d s1 s2
  | abs => exact pe_callB abs_ok g m (by decide +kernel) h n d s1 s2
  | repr => exact pe_callB (repr_ok (by omega) c.guards) g m (by decide +kernel) h n d s1 s2
  | tupRev => exact absurd rfl hp
  | dict => exact pe_callTy dict_ok g m PyProof.Rows.boot_dict h n d s1 s2
theorem e_isi {G : Gd} {sc : Scope} (hs : X.env.scope = sc) (c : Ctx X F G) {t : Ty} {y z : Str} {p1 p2 : Pos} (hy : y = "isinstance") (hf : freeB G sc y = true) (hz : z = Str.ofString t.nm) (hg : freeB G sc z = true) (ha : PE X a (tV X.K (ev F ea))) (hb : starB a = false) :
    PE X (.Call (.Name y p1) [a, .Name z p2] [] pos) (tV X.K (ev F (.isi ea t))) := by
  obtain ⟨g, m, n, d⟩ := free_of hs c hf
  obtain ⟨g2, m2, n2, d2⟩ := free_of hs c hg
  subst hy
  have ht : PE X (.Name z p2) (tC (.ty t.nm)) := by
    subst hz
    cases t <;> exact pe_bltn g2 m2 (by decide +kernel) rfl n2 d2
  refine PE.imp (pe_callB call_isi g m PyProof.Rows.boot_isinstance (pa_cons ha (pa_cons ht pa_nil (star_one rfl)) (star_one hb)) n d (star_one hb) rfl) fun σ H Q ⟨W, A, ρ, rr, ρ', S, he, q⟩ => ?_
  unfold ev at he
  obtain ⟨⟨ra, ρ1⟩, h1, he⟩ := bnd_inv he
  obtain ⟨x, hx, he⟩ := bnd_inv he
  cases he
  exact tV.mk S h1 fun va H1 e1 S1 l1 => ⟨va, .ty t.nm, _, _, _, rfl, .ty _, (l1.look S1 (ofO_inv hx)).ty, isi_kit X.K t x, q _ H1 e1 ⟨S1, .bl _⟩⟩
end
end Rf

set_option Elab.async false
set_option linter.all false
set_option maxRecDepth 100000
set_option maxHeartbeats 4000000
/-! Rf8: a call of a function of the text. -/
namespace Rf
open PySem PySem.Spec L2

def asOf (A : Own) (rs : List RV) : Own := rs.map fun r => match r with
  | .b i => at2 A i
  | _ => none
theorem at2_asOf {A : Own} {rs : List RV} {i : Nat} {a : Addr} (h : at2 (asOf A rs) i = some a) : ∃ k, rs[i]? = some (.b k) ∧ at2 A k = some a := by
  unfold at2 asOf at h
  rw [List.getElem?_map] at h
  cases e : rs[i]? with
  | none => rw [e] at h; cases h
  | some r =>
    rw [e] at h
    cases r with
    | v d => cases h
    | m o => cases h
    | b k => exact ⟨k, rfl, h⟩
    | f g x => cases h
    | mt o d => cases h
theorem at2_asOf' {A : Own} {rs : List RV} {i k : Nat} (h : rs[i]? = some (.b k)) : at2 (asOf A rs) i = at2 A k := by
  unfold asOf
  show ((rs.map _)[i]?).join = _
  rw [List.getElem?_map, h] <;> rfl
theorem at2_asOfN {A : Own} {rs : List RV} {i : Nat} {r : RV} (h : rs[i]? = some r) (n : ∀ k, r ≠ .b k) : at2 (asOf A rs) i = none := by
  unfold asOf
  show ((rs.map _)[i]?).join = _
  rw [List.getElem?_map, h]
  cases r with
  | v d => rfl
  | m o => rfl
  | b k => exact absurd rfl (n k)
  | f g x => rfl
  | mt o d => rfl
theorem refs_mem {k : Nat} : ∀ {rs : List RV} {i : Nat}, rs[i]? = some (.b k) → k ∈ refs rs
  | [], _, h => by simp at h
  | r :: rs, 0, h => by
    simp at h; subst h
    exact List.mem_cons_self
  | r :: rs, i + 1, h => by
    have ih := refs_mem (rs := rs) (i := i) (by simpa using h)
    cases r with
    | v d => exact ih
    | m o => exact ih
    | f g x => exact ih
    | mt o d => exact ih
    | b j => exact List.mem_cons_of_mem _ ih
theorem refs_of {k : Nat} : ∀ {rs : List RV}, k ∈ refs rs → ∃ i : Nat, rs[i]? = some (RV.b k)
  | [], h => by cases h
  | .v d :: rs, h => by
    obtain ⟨i, e⟩ := refs_of (rs := rs) h
    exact ⟨i + 1, by simpa using e⟩
  | .m o :: rs, h => by
    obtain ⟨i, e⟩ := refs_of (rs := rs) h
    exact ⟨i + 1, by simpa using e⟩
  | .f _ _ :: rs, h => by
    obtain ⟨i, e⟩ := refs_of (rs := rs) h
    exact ⟨i + 1, by simpa using e⟩
  | .mt _ _ :: rs, h => by
    obtain ⟨i, e⟩ := refs_of (rs := rs) h
    exact ⟨i + 1, by simpa using e⟩
  | .b j :: rs, h => by
    rcases List.mem_cons.mp (show k ∈ j :: refs rs from h) with e | h
    · subst e; exact ⟨0, rfl⟩
    · obtain ⟨i, e⟩ := refs_of (rs := rs) h
      exact ⟨i + 1, by simpa using e⟩
theorem refs_inj {k : Nat} : ∀ {rs : List RV} {i j : Nat}, (refs rs).Nodup → rs[i]? = some (.b k) → rs[j]? = some (.b k) → i = j
  | [], _, _, _, h, _ => by simp at h
  | r :: rs, 0, 0, _, _, _ => rfl
  | r :: rs, 0, j + 1, n, h1, h2 => by
    simp at h1; subst h1
    have h2 : rs[j]? = some (.b k) := by simpa using h2
    exact absurd (refs_mem h2) (List.nodup_cons.mp (show (k :: refs rs).Nodup from n)).1
  | r :: rs, i + 1, 0, n, h1, h2 => by
    simp at h2; subst h2
    have h1 : rs[i]? = some (.b k) := by simpa using h1
    exact absurd (refs_mem h1) (List.nodup_cons.mp (show (k :: refs rs).Nodup from n)).1
  | r :: rs, i + 1, j + 1, n, h1, h2 => by
    have n' : (refs rs).Nodup := by
      cases r with
      | v d => exact n
      | m o => exact n
      | f g x => exact n
      | mt o d => exact n
      | b q => exact (List.nodup_cons.mp (show (q :: refs rs).Nodup from n)).2
    rw [refs_inj n' (i := i) (j := j) (by simpa using h1) (by simpa using h2)]
theorem argsIn_cons {ρ : Env} {r : RV} {rs : List RV} {ss : List SV} (h : argsIn ρ (r :: rs) = some ss) : ∃ s ss', argIn ρ r = some s ∧ argsIn ρ rs = some ss' ∧ ss = s :: ss' := by
  unfold argsIn at h
  obtain ⟨s, h1, h2⟩ := Option.bind_eq_some_iff.mp h
  obtain ⟨ss', h3, h4⟩ := mapO h2
  exact ⟨s, ss', h1, h3, h4.symm⟩
theorem argsIn_get {ρ : Env} : ∀ {rs : List RV} {ss : List SV}, argsIn ρ rs = some ss → rs.length = ss.length ∧ ∀ (i : Nat) (s : SV), ss[i]? = some s → ∃ r, rs[i]? = some r ∧ argIn ρ r = some s
  | [], ss, h => by
    have h : some [] = some ss := h
    cases h
    exact ⟨rfl, fun i s e => by simp at e⟩
  | r :: rs, ss, h => by
    obtain ⟨s, ss', h1, h2, rfl⟩ := argsIn_cons h
    obtain ⟨l, g⟩ := argsIn_get h2
    refine ⟨by simp [l], fun i s e => ?_⟩
    cases i with
    | zero => simp at e; subst e; exact ⟨r, rfl, h1⟩
    | succ i => exact g i s (by simpa using e)
theorem Paired.at_ {α β : Type} {R : α → β → Prop} : ∀ {xs : List α} {ys : List β}, Paired R xs ys → ∀ {i : Nat} {x : α}, xs[i]? = some x → ∃ y, ys[i]? = some y ∧ R x y
  | _, _, .nil, _, _, h => by simp at h
  | _, _, .cons r t, 0, x, h => by simp at h; subst h; exact ⟨_, rfl, r⟩
  | _, _, .cons r t, i + 1, x, h => by
    obtain ⟨y, h1, h2⟩ := Paired.at_ t (i := i) (x := x) (by simpa using h)
    exact ⟨y, by simpa using h1, h2⟩
theorem slot_map {ss : List SV} {i : Nat} : slot (ss.map some) i = ss[i]? := by
  unfold slot
  rw [List.getElem?_map]
  cases ss[i]? <;> rfl

def Wd.for (W : Wd) (A : Own) (H : Hp) (rs : List RV) : Wd := ⟨(Lk W A).filter fun a => decide (a ∉ ow (asOf A rs)), H, asOf A rs⟩
section
variable {K : PySem.W.Frag} {W : Wd} {A : Own} {H H' : Hp} {ρ ρ2 : Env} {σ : St} {rs : List RV} {vs : List V} {ss ss' : List SV} {os : List MO}
theorem for_sub : ∀ a, a ∈ Lk (W.for A H rs) (asOf A rs) → a ∈ Lk W A := fun a h => by
  rcases List.mem_append.mp h with h | h
  · exact (List.mem_filter.mp h).1
  · obtain ⟨i, e⟩ := ow_at2 h
    obtain ⟨k, _, e2⟩ := at2_asOf e
    exact ow_Lk _ (at2_ow e2)
theorem for_sup : ∀ a, a ∈ Lk W A → a ∈ Lk (W.for A H rs) (asOf A rs) := fun a h => by
  by_cases q : a ∈ ow (asOf A rs)
  · exact List.mem_append_right _ q
  · exact List.mem_append_left _ (List.mem_filter.mpr ⟨h, decide_eq_true q⟩)
/-- the callee's frame at its entry -/
theorem Sim.enter (S : Sim K W A H ρ σ) (hl : HeldAll K W A H σ rs vs) (ha : argsIn ρ rs = some ss) (nd : (refs rs).Nodup) : Sim K (W.for A H rs) (asOf A rs) H (ss.map some) (vs.map some) ∧ ss.all notM = true := by
  obtain ⟨l1, g⟩ := argsIn_get ha
  have l2 : rs.length = vs.length := Paired.length hl
  refine ⟨⟨by simp [asOf, l1], by simp [← l2, l1], fun i s h => ?_, fun i h => ?_, fun i j a h1 h2 => ?_, fun i a h q => ?_, fun a h => ?_, Ext.refl _ _⟩, ?_⟩
  · rw [slot_map] at h
    obtain ⟨r, hr, hs⟩ := g i s h
    obtain ⟨v, hv, hd⟩ := Paired.at_ hl hr
    refine ⟨v, by rw [List.getElem?_map, hv]; rfl, ?_⟩
    cases r with
    | v d => cases hs; exact ⟨at2_asOfN hr (fun k z => by cases z), Rep.sub for_sub hd⟩
    | m o => cases hs; exact ⟨at2_asOfN hr (fun k z => by cases z), Rep.sub for_sub hd⟩
    | f g x => cases hs; exact ⟨at2_asOfN hr (fun k z => by cases z), hd⟩
    | mt o d => cases hs
    | b k =>
      obtain ⟨o, h3, h4⟩ := mapO (show (own ρ k).map .p = some s from hs)
      subst h4
      obtain ⟨a, q1, q2, q3⟩ := S.own_at h3
      have e := hd.1
      rw [q2] at e
      cases e
      exact ⟨a, (at2_asOf' hr).trans q1, rfl, (at2_asOf' hr).trans q1, q3.sub for_sub⟩
  · rw [slot_map] at h
    cases e : at2 (asOf A rs) i with
    | none => rfl
    | some a =>
      obtain ⟨k, h1, _⟩ := at2_asOf e
      have h3 := (List.getElem?_eq_some_iff.mp h1).1
      have h4 := List.getElem?_eq_none_iff.mp h
      omega
  · obtain ⟨k, q1, q2⟩ := at2_asOf h1
    obtain ⟨k2, q3, q4⟩ := at2_asOf h2
    cases S.inj _ _ _ q2 q4
    exact refs_inj nd q1 q3
  · have := of_decide_eq_true (List.mem_filter.mp q).2
    exact this (at2_ow h)
  · exact S.live a (List.mem_filter.mp h).1
  · rw [List.all_eq_true]
    intro s hs
    obtain ⟨i, hi⟩ := List.getElem?_of_mem hs
    obtain ⟨r, _, hr⟩ := g i s hi
    cases r with
    | v d => cases hr; rfl
    | m o => cases hr; rfl
    | f g x => cases hr; rfl
    | mt o d => cases hr
    | b k =>
      obtain ⟨o, _, h4⟩ := mapO (show (own ρ k).map .p = some s from hr)
      subst h4; rfl
theorem slot_chg {ρ : Env} {k j : Nat} {o : MO} (hk : k < ρ.length) : slot (chg ρ k o) j = if j = k then (slot ρ k).map (fun s => s.put o) else slot ρ j := by
  unfold chg
  rw [slot_set hk]
theorem len_chg {ρ : Env} {k : Nat} {o : MO} : (chg ρ k o).length = ρ.length := by unfold chg; simp
theorem back_step : ∀ {rs : List RV} {ss ss' : List SV} {os : List MO} {ρ0 ρ ρ2 : Env}, argsIn ρ0 rs = some ss → putOuts ss os = some ss' → backs ρ (refs rs) os = some ρ2 → (refs rs).Nodup → (∀ k ∈ refs rs, k < ρ.length) →
    ρ2.length = ρ.length ∧ (∀ j, j ∉ refs rs → slot ρ2 j = slot ρ j) ∧ ∀ (i k : Nat), rs[i]? = some (.b k) → ∃ o', ss'[i]? = some (.p o') ∧ slot ρ2 k = (slot ρ k).map fun s => s.put o'
  | [], ss, ss', os, ρ0, ρ, ρ2, ha, hp, hb, nd, hlt => by
    have ha : some [] = some ss := ha
    cases ha
    cases os with
    | nil =>
      have hb : some ρ = some ρ2 := hb
      cases hb
      exact ⟨rfl, fun _ _ => rfl, fun i k h => by simp at h⟩
    | cons o os => cases hp
  | .v d :: rs, ss, ss', os, ρ0, ρ, ρ2, ha, hp, hb, nd, hlt => by
    obtain ⟨s, s1, h1, h2, rfl⟩ := argsIn_cons ha
    cases h1
    obtain ⟨s2, h3, h4⟩ := mapO (show (putOuts s1 os).map (SV.v d :: ·) = some ss' from hp)
    subst h4
    obtain ⟨q1, q2, q3⟩ := back_step (rs := rs) h2 h3 hb nd hlt
    refine ⟨q1, q2, fun i k h => ?_⟩
    cases i with
    | zero => simp at h
    | succ i => exact q3 i k (by simpa using h)
  | .m o :: rs, ss, ss', os, ρ0, ρ, ρ2, ha, hp, hb, nd, hlt => by
    obtain ⟨s, s1, h1, h2, rfl⟩ := argsIn_cons ha
    cases h1
    obtain ⟨s2, h3, h4⟩ := mapO (show (putOuts s1 os).map (SV.v o.data :: ·) = some ss' from hp)
    subst h4
    obtain ⟨q1, q2, q3⟩ := back_step (rs := rs) h2 h3 hb nd hlt
    refine ⟨q1, q2, fun i k h => ?_⟩
    cases i with
    | zero => simp at h
    | succ i => exact q3 i k (by simpa using h)
  | .mt _ _ :: rs, ss, ss', os, ρ0, ρ, ρ2, ha, hp, hb, nd, hlt => by
    obtain ⟨s, s1, h1, h2, rfl⟩ := argsIn_cons ha
    cases h1
  | .f g x :: rs, ss, ss', os, ρ0, ρ, ρ2, ha, hp, hb, nd, hlt => by
    obtain ⟨s, s1, h1, h2, rfl⟩ := argsIn_cons ha
    cases h1
    obtain ⟨s2, h3, h4⟩ := mapO (show (putOuts s1 os).map (SV.f g x :: ·) = some ss' from hp)
    subst h4
    obtain ⟨q1, q2, q3⟩ := back_step (rs := rs) h2 h3 hb nd hlt
    refine ⟨q1, q2, fun i k h => ?_⟩
    cases i with
    | zero => simp at h
    | succ i => exact q3 i k (by simpa using h)
  | .b c :: rs, ss, ss', os, ρ0, ρ, ρ2, ha, hp, hb, nd, hlt => by
    obtain ⟨s, s1, h1, h2, rfl⟩ := argsIn_cons ha
    obtain ⟨o0, _, h4⟩ := mapO (show (own ρ0 c).map .p = some s from h1)
    subst h4
    cases os with
    | nil => cases hp
    | cons o os =>
      obtain ⟨s2, h3, h5⟩ := mapO (show (putOuts s1 os).map (SV.p o :: ·) = some ss' from hp)
      subst h5
      have nd' := List.nodup_cons.mp (show (c :: refs rs).Nodup from nd)
      have hc : c < ρ.length := hlt c List.mem_cons_self
      obtain ⟨q1, q2, q3⟩ := back_step (rs := rs) (ρ := chg ρ c o) h2 h3 hb nd'.2 (fun k hk => by rw [len_chg]; exact hlt k (List.mem_cons_of_mem _ hk))
      refine ⟨by rw [q1, len_chg], fun j hj => ?_, fun i k h => ?_⟩
      · have hj : j ∉ c :: refs rs := hj
        rw [List.mem_cons, not_or] at hj
        rw [q2 j hj.2, slot_chg hc, if_neg hj.1]
      · cases i with
        | zero =>
          simp at h; subst h
          exact ⟨o, rfl, by rw [q2 c nd'.1, slot_chg hc, if_pos rfl]⟩
        | succ i =>
          have h : rs[i]? = some (.b k) := by simpa using h
          obtain ⟨o', z1, z2⟩ := q3 i k h
          refine ⟨o', by simpa using z1, ?_⟩
          rw [z2, slot_chg hc, if_neg]
          rintro rfl
          exact nd'.1 (refs_mem h)
/-- back in the caller's frame; Z: what the call made and hands on -/
theorem Sim.leave {Z : List Addr} (S : Sim K W A H ρ σ) (hl : HeldAll K W A H σ rs vs) (ha : argsIn ρ rs = some ss) (nd : (refs rs).Nodup) (hp : putOuts ss os = some ss') (hb : backs ρ (refs rs) os = some ρ2)
    (e : Ext (ow (asOf A rs)) H H') (hZ : ∀ z ∈ Z, H z = none) (S' : Sim K { W.for A H rs with D := Z ++ (W.for A H rs).D } (asOf A rs) H' (ss'.map some) (vs.map some)) : Sim K { W with D := Z ++ W.D } A H' ρ2 σ := by
  have hlt : ∀ k ∈ refs rs, k < ρ.length := fun k hk => by
    obtain ⟨i, h⟩ := refs_of hk
    obtain ⟨v, _, hd⟩ := Paired.at_ hl h
    have := (List.getElem?_eq_some_iff.mp hd.1).1
    rw [S.lenS] at this
    exact this
  obtain ⟨b1, b2, b3⟩ := back_step ha hp hb nd hlt
  have oA : ∀ a, a ∈ ow (asOf A rs) → a ∈ Lk W A := fun a h => for_sub (H := H) a (List.mem_append_right _ h)
  have addZ : ∀ a, a ∈ Lk { W with D := Z ++ W.D } A → a ∈ Lk W A ∨ H a = none := fun a h => by
    rcases List.mem_append.mp h with h | h
    · rcases List.mem_append.mp h with h | h
      · exact .inr (hZ a h)
      · exact .inl (List.mem_append_left _ h)
    · exact .inl (List.mem_append_right _ h)
  have supZ : ∀ a, a ∈ Lk { W with D := Z ++ W.D } A → a ∈ Lk { W.for A H rs with D := Z ++ (W.for A H rs).D } (asOf A rs) := fun a h => by
    rcases List.mem_append.mp h with h | h
    · rcases List.mem_append.mp h with h | h
      · exact List.mem_append_left _ (List.mem_append_left _ h)
      · rcases List.mem_append.mp (for_sup (rs := rs) (H := H) a (List.mem_append_left _ h)) with q | q
        · exact List.mem_append_left _ (List.mem_append_right _ q)
        · exact List.mem_append_right _ q
    · rcases List.mem_append.mp (for_sup (rs := rs) (H := H) a (List.mem_append_right _ h)) with q | q
      · exact List.mem_append_left _ (List.mem_append_right _ q)
      · exact List.mem_append_right _ q
  have live : ∀ i a, at2 A i = some a → H a ≠ none := fun i a h => S.live a (ow_Lk a (at2_ow h))
  have keepA : ∀ j a, at2 A j = some a → j ∉ refs rs → a ∉ ow (asOf A rs) := fun j a h hj q => by
    obtain ⟨i, e1⟩ := ow_at2 q
    obtain ⟨k, e2, e3⟩ := at2_asOf e1
    cases S.inj _ _ _ h e3
    exact hj (refs_mem e2)
  have ofRef : ∀ k ∈ refs rs, ∃ i : Nat, rs[i]? = some (RV.b k) := fun k hk => refs_of hk
  refine ⟨by rw [b1]; exact S.lenA, by rw [b1]; exact S.lenS, fun j s h => ?_, fun j h => ?_, S.inj, fun i a h q => ?_, fun a h => ?_, ?_⟩
  · by_cases hj : j ∈ refs rs
    · obtain ⟨i, hi⟩ := ofRef j hj
      obtain ⟨o', h1, h2⟩ := b3 i j hi
      obtain ⟨v, hv, hd⟩ := Paired.at_ hl hi
      obtain ⟨hσ, a, hA⟩ := hd
      obtain ⟨w, q1, a', q2, q3, _, q4⟩ := S'.slots i (.p o') (by rw [slot_map]; exact h1)
      have q2' := (at2_asOf' (A := A) hi).symm.trans q2
      rw [hA] at q2'
      cases q2'
      obtain ⟨s0, o0, t1, t2, t3, t4⟩ := S.owned hA
      rw [h2, t1] at h
      have h : s0.put o' = s := Option.some.inj h
      subst h
      obtain ⟨v0, u1, u2⟩ := S.slots j s0 t1
      refine ⟨.ref a, t3, ?_⟩
      cases s0 with
      | v d => cases t2
      | f g x => cases t2
      | m o =>
        obtain ⟨b, z1, z2, z3, _⟩ := u2
        rw [hA] at z1; cases z1
        exact ⟨a, hA, rfl, z3, q4.sub supZ⟩
      | p o =>
        obtain ⟨b, z1, z2, z3, _⟩ := u2
        rw [hA] at z1; cases z1
        exact ⟨a, hA, rfl, z3, q4.sub supZ⟩
    · rw [b2 j hj] at h
      obtain ⟨v, u1, u2⟩ := S.slots j s h
      refine ⟨v, u1, ?_⟩
      cases s with
      | f g x => exact u2
      | v d =>
        refine ⟨u2.1, ?_⟩
        have r0 := (u2.2.ext e oA)
        exact (u2.2.add addZ).ext (L := Lk { W with D := Z ++ W.D } A) e fun a q => by
          rcases List.mem_append.mp (oA a q) with q | q
          · exact List.mem_append_left _ (List.mem_append_right _ q)
          · exact List.mem_append_right _ q
      | m o =>
        obtain ⟨a, z1, z2, z3, z4⟩ := u2
        exact ⟨a, z1, z2, z3, (z4.add addZ).ext (L := Lk { W with D := Z ++ W.D } A) e (fun b q => by
          rcases List.mem_append.mp (oA b q) with q | q
          · exact List.mem_append_left _ (List.mem_append_right _ q)
          · exact List.mem_append_right _ q) fun u q => e.keep _ _ q (.inl (keepA j a z1 hj))⟩
      | p o =>
        obtain ⟨a, z1, z2, z3, z4⟩ := u2
        exact ⟨a, z1, z2, z3, (z4.add addZ).ext (L := Lk { W with D := Z ++ W.D } A) e (fun b q => by
          rcases List.mem_append.mp (oA b q) with q | q
          · exact List.mem_append_left _ (List.mem_append_right _ q)
          · exact List.mem_append_right _ q) fun u q => e.keep _ _ q (.inl (keepA j a z1 hj))⟩
  · by_cases hj : j ∈ refs rs
    · obtain ⟨i, hi⟩ := ofRef j hj
      obtain ⟨o', h1, h2⟩ := b3 i j hi
      rw [h2] at h
      cases q : slot ρ j with
      | none => exact S.free j q
      | some s => rw [q] at h; cases h
    · rw [b2 j hj] at h
      exact S.free j h
  · rcases List.mem_append.mp q with q | q
    · exact live i a h (hZ a q)
    · exact S.dsj i a h q
  · rcases List.mem_append.mp h with h | h
    · exact S'.lck a (List.mem_append_left _ h)
    · exact fun z => S.lck a h (e.dom a z)
  · refine ⟨fun a o h n => ?_, fun a h => S.ext0.dom a (e.dom a h)⟩
    refine e.keep a o (S.ext0.keep a o h n) ?_
    by_cases q : a ∈ ow (asOf A rs)
    · right
      obtain ⟨i, e1⟩ := ow_at2 q
      obtain ⟨k, e2, e3⟩ := at2_asOf e1
      obtain ⟨s0, o0, t1, t2, t3, t4⟩ := S.owned e3
      obtain ⟨v0, u1, u2⟩ := S.slots k s0 t1
      cases s0 with
      | v d => cases t2
      | f g x => cases t2
      | m x =>
        obtain ⟨b, z1, z2, z3, _⟩ := u2
        rw [e3] at z1; cases z1
        have h : W.H0 a = some o := h
        rw [z3] at h; cases h
      | p x =>
        obtain ⟨b, z1, z2, z3, _⟩ := u2
        rw [e3] at z1; cases z1
        rcases n with n | n
        · exact absurd (at2_ow z3) n
        · exact n
    · exact .inl q
end

section
variable {X : Cx} {F : Fn} {es : List Expr} {ees : Es} {pos : Pos}
theorem runG {pins : List (Addr × Obj)} {σ : St} {H : Hp} {s : Shared} {Q : VK} {us : List Value} {vs : List V} {k : Nat} {f : Addr} {fd : FuncData} {ps : List Str} {sp : SpG} (c : X.A.guards = some []) (G : FnG X.prog X.w X.K X.mg X.base k f fd ps sp) (hr : Room k X.A) (hb : Binds X.K fd ps [])
    (I : Inv X pins σ H s) (r : Vals vs us) (h : sp vs H Q) : wpAny (model X.prog X.w) X.A (call (.ref f) us) (EP X pins σ Q) X.xe s := by
  have hl : us.length = ps.length := by rw [← r.length]; exact G.len _ _ _ h
  have hb' := hb s us I.kIn (by simpa using hl)
  rw [List.append_nil] at hb'
  refine wpAny_call (codeAny_mono (G.run X.A X.stack s H ⟨us, []⟩ us vs Q hr c I.env0 hb' r h) fun q s' hq => ?_)
  cases q with
  | error e => exact False.elim hq
  | ok fl =>
    cases fl with
    | ret u => exact I.after hq
    | next => exact False.elim hq
    | brk => exact False.elim hq
    | cont => exact False.elim hq
theorem pe_callG {x : Str} {p : Pos} {k : Nat} {f : Addr} {fd : FuncData} {ps : List Str} {sp : SpG} {t : TA} {e : Expr} (c : X.A.guards = some []) (G : FnG X.prog X.w X.K X.mg X.base k f fd ps sp) (hr : Room k X.A) (hg : Gl X x) (hm : X.mg x = some (.ref f)) (hk : PySem.W.keepIn X.K (.ref f) = true) (hb : Binds X.K fd ps [])
    (ha : PA X (e :: es) t) (hdb : (x == ("__debug__" : Str)) = false) (hs : (e :: es).all (fun e => !starB e) = true) : PE X (.Call (.Name x p) (e :: es) [] pos) (fun σ H Q => t σ H fun vs H1 => sp vs H1 Q) := by
  refine ⟨fun pins s σ H Q I h => ?_⟩
  refine wpAny_Call_Name_kw (ld_glob I hg hm ?_ hdb)
  rw [List.all_cons, Bool.and_eq_true] at hs
  refine PySem.W.callWith_K (h₀ := X.base) I.ok.mod.kin hk (thn (ha.run pos pins s σ H _ I h) fun us s1 ⟨vs, H1, I1, r, q⟩ => ⟨I1.kIn, ?_⟩) (star_one (by simpa using hs.1)) (star_none hs.2)
  exact runG c G hr hb I1 r q
theorem pe_callG0 {x : Str} {p : Pos} {k : Nat} {f : Addr} {fd : FuncData} {ps : List Str} {sp : SpG} (c : X.A.guards = some []) (G : FnG X.prog X.w X.K X.mg X.base k f fd ps sp) (hr : Room k X.A) (hg : Gl X x) (hm : X.mg x = some (.ref f)) (hk : PySem.W.keepIn X.K (.ref f) = true) (hb : Binds X.K fd ps [])
    (hdb : (x == ("__debug__" : Str)) = false) : PE X (.Call (.Name x p) [] [] pos) (fun σ H Q => sp [] H Q) := by
  refine ⟨fun pins s σ H Q I h => ?_⟩
  refine wpAny_Call_Name_kw (ld_glob I hg hm ?_ hdb)
  exact PySem.W.callWith_K0 I.kIn hk (runG c G hr hb I .nil h)
/-- how the answer of a call is taken -/
theorem call_core {W : Wd} {A : Own} {ρ : Env} {H : Hp} {σ : St} {rs : List RV} {vs : List V} {f : Nat} {rr : RV} {ρ' : Env} {Q : VK} (S : Sim X.K W A H ρ σ) (hl : HeldAll X.K W A H σ rs vs)
    (he : (if (refs rs).Nodup then (ofO (argsIn ρ rs)).bnd fun ss => match F f ss with
      | .ok (r, os) => (ofO (backs ρ (refs rs) os)).bnd fun ρ2 => match r with
        | .b _ => .bad
        | r => .ok (r, ρ2)
      | .exc x _ => if refs rs = [] then .exc x ρ else .bad
      | .bad => .bad
    else .bad) = Res.ok (rr, ρ')) (hos : ∀ ss r os, ss.all notM = true → F f ss = .ok (r, os) → ∃ ss', putOuts ss os = some ss')
    (q : ∀ v H', Ext (ow A) H H' → PostV X.K W A H H' ρ' σ v rr → Q v H') : spR X.K F f vs H Q := by
  split at he
  · rename_i nd
    obtain ⟨ss, hs, he⟩ := bnd_inv he
    obtain ⟨E1, E2⟩ := S.enter hl (ofO_inv hs) nd
    split at he
    · rename_i r os hF
      obtain ⟨ρ2, hb, he⟩ := bnd_inv he
      obtain ⟨ss', hp⟩ := hos ss r os E2 hF
      refine ⟨W.for A H rs, ss, r, os, ss', rfl, E1, E2, hF, hp, fun v H' e p => ?_⟩
      have eA : Ext (ow A) H H' := e.mono fun a h => by
        obtain ⟨i, e1⟩ := ow_at2 h
        obtain ⟨k, _, e3⟩ := at2_asOf e1
        exact at2_ow e3
      refine q v H' eA ?_
      cases r with
      | b i => cases he
      | v d =>
        cases he
        have S2 := S.leave (Z := []) hl (ofO_inv hs) nd hp (ofO_inv hb) e (fun z hz => by cases hz) p.1
        exact ⟨S2, p.2.sub for_sup⟩
      | f g x =>
        cases he
        have S2 := S.leave (Z := []) hl (ofO_inv hs) nd hp (ofO_inv hb) e (fun z hz => by cases hz) p.1
        exact ⟨S2, p.2⟩
      | mt o d =>
        cases he
        obtain ⟨pp, a, v2, rfl, hq, hn, S', mo, rp⟩ := p
        have S2 := S.leave (Z := [a]) hl (ofO_inv hs) nd hp (ofO_inv hb) e (fun z hz => by rw [List.mem_singleton.mp hz]; exact hn) S'
        have sup : ∀ b, b ∈ Lk { W with D := a :: W.D } A → b ∈ Lk { W.for A H rs with D := a :: (W.for A H rs).D } (asOf A rs) := fun b hb => by
          rcases List.mem_append.mp hb with hb | hb
          · rcases List.mem_cons.mp hb with hb | hb
            · exact List.mem_append_left _ (List.mem_cons.mpr (.inl hb))
            · rcases List.mem_append.mp (for_sup (rs := rs) (H := H) b (List.mem_append_left _ hb)) with z | z
              · exact List.mem_append_left _ (List.mem_cons_of_mem _ z)
              · exact List.mem_append_right _ z
          · rcases List.mem_append.mp (for_sup (rs := rs) (H := H) b (List.mem_append_right _ hb)) with z | z
            · exact List.mem_append_left _ (List.mem_cons_of_mem _ z)
            · exact List.mem_append_right _ z
        exact ⟨pp, a, v2, rfl, hq, hn, S2, mo.sub sup, rp.sub sup⟩
      | m o =>
        cases he
        obtain ⟨a, rfl, hn, S', mo⟩ := p
        have S2 := S.leave (Z := [a]) hl (ofO_inv hs) nd hp (ofO_inv hb) e (fun z hz => by rw [List.mem_singleton.mp hz]; exact hn) S'
        refine ⟨a, rfl, hn, S2, mo.sub fun b hb => ?_⟩
        rcases List.mem_append.mp hb with hb | hb
        · rcases List.mem_cons.mp hb with hb | hb
          · exact List.mem_append_left _ (List.mem_cons.mpr (.inl hb))
          · rcases List.mem_append.mp (for_sup (rs := rs) (H := H) b (List.mem_append_left _ hb)) with z | z
            · exact List.mem_append_left _ (List.mem_cons_of_mem _ z)
            · exact List.mem_append_right _ z
        · rcases List.mem_append.mp (for_sup (rs := rs) (H := H) b (List.mem_append_right _ hb)) with z | z
          · exact List.mem_append_left _ (List.mem_cons_of_mem _ z)
          · exact List.mem_append_right _ z
    · split at he <;> cases he
    · cases he
  · cases he
/-- what a machine's function hands back fits what it took -/
def FnFit (F : Fn) : Prop := ∀ f ss r os, ss.all notM = true → F f ss = .ok (r, os) → ∃ ss', putOuts ss os = some ss'
theorem e_call {G : Gd} {sc : Scope} (hs : X.env.scope = sc) (c : Ctx X F G) (fit : FnFit F) {x : Str} {f : Nat} {p1 : Pos} (hg : glB sc x = true) (hf : (x, f) ∈ G.fns) (ha : PA X es (tA X.K (evA F ees))) (hb : es.all (fun e => !starB e) = true) (hlen : es.length = ees.len) : PE X (.Call (.Name x p1) es [] pos) (tV X.K (ev F (.call f x ees))) := by
  obtain ⟨g, d⟩ := gl_of hs hg
  obtain ⟨fa, fd, ps, k, hm, hk, bb, hr, hG⟩ := (c.fns x f hf).ex
  cases es with
  | nil =>
    cases ees with
    | nil =>
      refine PE.imp (pe_callG0 c.guards hG hr g hm hk bb d) fun σ H Q ⟨W, A, ρ, rr, ρ', S, he, q⟩ => ?_
      unfold ev at he
      obtain ⟨⟨rs, ρ1⟩, h1, he⟩ := bnd_inv he
      unfold evA at h1
      cases h1
      exact call_core S .nil he (fit f) q
    | cons e0 ee => cases hlen
  | cons e es =>
    refine PE.imp (pe_callG c.guards hG hr g hm hk bb ha d hb) fun σ H Q ⟨W, A, ρ, rr, ρ', S, he, q⟩ => ?_
    unfold ev at he
    obtain ⟨⟨rs, ρ1⟩, h1, he⟩ := bnd_inv he
    refine ⟨W, A, ρ, rs, ρ1, S, h1, fun vs H1 e1 S1 r1 => ?_⟩
    refine call_core S1 r1 he (fit f) fun v H' e2 p => q v H' (e1.trans e2) ?_
    cases rr with
    | v d => exact p
    | m o =>
      obtain ⟨a, p1, p2, p3⟩ := p
      exact ⟨a, p1, e1.dom _ p2, p3⟩
    | b i => exact p
    | f g x => exact p
    | mt o d =>
      obtain ⟨p0, p1, p2, p3, p4, p5, p6⟩ := p
      exact ⟨p0, p1, p2, p3, p4, e1.dom _ p5, p6⟩
theorem e_fn {G : Gd} {sc : Scope} {x : Str} {g : Nat} {pos : Pos} (c : Ctx X F G) (hs : X.env.scope = sc) (hg : glB sc x = true) (hm : (x, g) ∈ G.fns) : PE X (.Name x pos) (tV X.K (ev F (.fn g x))) := by
  have h1 := (c.fns x g hm).adr
  obtain ⟨gl, nd⟩ := gl_of hs hg
  refine PE.imp (pe_glob (v := .ref (fnA X.K x)) gl h1 rfl nd) fun σ H Q ⟨W, A, ρ, rr, ρ', S, he, q⟩ => ?_
  unfold ev at he
  cases he
  exact q _ H (Ext.refl _ _) ⟨S, rfl⟩
theorem pe_callLG {x : Str} {p : Pos} {i k : Nat} {f : Addr} {fd : FuncData} {ps : List Str} {sp : SpG} {t : TA} {e : Expr} {es : List Expr} (c : X.A.guards = some []) (G : FnG X.prog X.w X.K X.mg X.base k f fd ps sp) (hr : Room k X.A) (hv : PE X (.Name x p) (tVar i)) (hk : PySem.W.keepIn X.K (.ref f) = true) (hb : Binds X.K fd ps [])
    (ha : PA X (e :: es) t) (hs : (e :: es).all (fun e => !starB e) = true) : PE X (.Call (.Name x p) (e :: es) [] pos) (fun σ H Q => σ[i]? = some (some (.ref f)) ∧ t σ H fun vs H1 => sp vs H1 Q) := by
  refine ⟨fun pins s σ H Q I ⟨h0, h⟩ => ?_⟩
  refine wpAny_Call_Name_kw (thn (hv.run pins s σ H (fun v H1 => v = .ref f ∧ H1 = H) I ⟨.ref f, h0, rfl, rfl⟩) fun u s1 ⟨v, H1, I1, r1, q1⟩ => ?_)
  obtain ⟨rfl, rfl⟩ := q1
  cases r1
  rw [List.all_cons, Bool.and_eq_true] at hs
  refine PySem.W.callWith_K (h₀ := X.base) I1.ok.mod.kin hk (thn (ha.run pos pins s1 σ _ _ I1 h) fun us s2 ⟨vs, H2, I2, r, q⟩ => ⟨I2.kIn, ?_⟩) (star_one (by simpa using hs.1)) (star_none hs.2)
  exact runG c G hr hb I2 r q
theorem e_cal {G : Gd} (c : Ctx X F G) (fit : FnFit F) {x : Str} {p1 : Pos} {i : Nat} {fs : List (Nat × Str)} {e : Expr} {es : List Expr} (hv : PE X (.Name x p1) (tVar i)) (hf : ∀ q ∈ fs, (q.2, q.1) ∈ G.fns) (ha : PA X (e :: es) (tA X.K (evA F ees))) (hb : (e :: es).all (fun e => !starB e) = true) : PE X (.Call (.Name x p1) (e :: es) [] pos) (tV X.K (ev F (.cal i fs ees))) := by
  refine ⟨fun pins s σ H Q I ⟨W, A, ρ, rr, ρ', S, he, q⟩ => ?_⟩
  unfold ev at he
  cases hsl : slot ρ i with
  | none => rw [hsl] at he; cases he
  | some sv =>
    rw [hsl] at he
    cases sv with
    | v d => cases he
    | m o => cases he
    | p o => cases he
    | f g y =>
      have he : (if (g, y) ∈ fs then _ else _) = _ := he
      split at he
      · rename_i hin
        obtain ⟨v, h1, _, h3⟩ := S.slots i _ hsl
        subst h3
        have ck := c.fns y g (hf _ hin)
        obtain ⟨fa, fd, ps, k, hm, hk, bb, hr, hG⟩ := ck.ex
        have ea : fa = fnA X.K y := by
          have := hm.symm.trans ck.adr
          cases this; rfl
        subst ea
        obtain ⟨⟨rs, ρ1⟩, h2, he⟩ := bnd_inv he
        refine (pe_callLG (i := i) c.guards hG hr hv hk bb ha hb).run pins s σ H Q I ⟨h1, ?_⟩
        refine ⟨W, A, ρ, rs, ρ1, S, h2, fun vs H1 e1 S1 r1 => ?_⟩
        refine call_core S1 r1 he (fit g) fun v H' e2 p => q v H' (e1.trans e2) ?_
        cases rr with
        | v d => exact p
        | m o =>
          obtain ⟨a, p1, p2, p3⟩ := p
          exact ⟨a, p1, e1.dom _ p2, p3⟩
        | b i => exact p
        | f g x => exact p
        | mt o d =>
          obtain ⟨p0, p1, p2, p3, p4, p5, p6⟩ := p
          exact ⟨p0, p1, p2, p3, p4, e1.dom _ p5, p6⟩
      · cases he
end
end Rf

set_option Elab.async false
set_option linter.all false
set_option maxRecDepth 100000
set_option maxHeartbeats 4000000
/-! Rf9: targets, what is walked, comprehensions. -/
namespace Rf
open PySem PySem.Spec L2

/-! ### slots of a block -/
theorem own_none {ρ : Env} {i : Nat} (h : (own ρ i).isNone = true) {K : PySem.W.Frag} {W : Wd} {A : Own} {H : Hp} {σ : St} (S : Sim K W A H ρ σ) : at2 A i = none := by
  cases e : at2 A i with
  | none => rfl
  | some a =>
    obtain ⟨s, o, h1, h2, _⟩ := S.owned e
    unfold own at h
    rw [h1] at h
    have h : (s.mo).isNone = true := h
    rw [h2] at h; cases h
theorem noMo_at {ρ : Env} {is : List Nat} (h : noMo ρ is = true) {K : PySem.W.Frag} {W : Wd} {A : Own} {H : Hp} {σ : St} (S : Sim K W A H ρ σ) : ∀ i ∈ is, at2 A i = none ∧ i < A.length := fun i hi => by
  have h := List.all_eq_true.mp h i hi
  rw [Bool.and_eq_true] at h
  exact ⟨own_none h.1 S, by rw [S.lenA]; exact of_decide_eq_true h.2⟩
theorem set_none {A : Own} {i : Nat} (h : at2 A i = none) (hl : i < A.length) : A.set i none = A := by
  unfold at2 at h
  rw [List.getElem?_eq_getElem hl] at h
  have h : A[i] = none := h
  rw [← h, List.set_getElem_self]
theorem wipe_get {vs : List Nat} {σ : St} {j : Nat} (h : j ∉ vs) : (wipe σ vs)[j]? = σ[j]? := by
  induction vs with
  | nil => rfl
  | cons v vs ih =>
    rw [List.mem_cons, not_or] at h
    unfold wipe
    rw [List.getElem?_set_ne (Ne.symm h.1), ih h.2]
theorem wipeE_len {ρ : Env} : ∀ is : List Nat, (wipeE ρ is).length = ρ.length
  | [] => rfl
  | i :: is => by unfold wipeE; rw [List.length_set, wipeE_len is]
theorem wipe_in {vs : List Nat} {σ : St} {j : Nat} (h : j ∈ vs) (hj : j < σ.length) : (wipe σ vs)[j]? = some none := by
  induction vs with
  | nil => cases h
  | cons v vs ih =>
    unfold wipe
    by_cases e : j = v
    · subst e
      rw [List.getElem?_set_self (by rw [wipe_length]; exact hj)]
    · rw [List.getElem?_set_ne (Ne.symm e)]
      rcases List.mem_cons.mp h with h | h
      · exact absurd h e
      · exact ih h
theorem wipe_eq {vs : List Nat} {σ σ' : St} (hl : σ'.length = σ.length) (h : ∀ j, j ∉ vs → σ'[j]? = σ[j]?) : wipe σ' vs = wipe σ vs := by
  apply List.ext_getElem?
  intro j
  by_cases e : j ∈ vs
  · by_cases hj : j < σ.length
    · rw [wipe_in e hj, wipe_in e (by rw [hl]; exact hj)]
    · rw [List.getElem?_eq_none (by rw [wipe_length, hl]; omega), List.getElem?_eq_none (by rw [wipe_length]; omega)]
  · rw [wipe_get e, wipe_get e, h j e]
section
variable {K : PySem.W.Frag} {W : Wd} {A : Own} {H H' : Hp} {ρ ρ1 ρ2 : Env} {σ : St}
theorem Sim.wipe : ∀ {is : List Nat}, Sim K W A H ρ σ → (∀ i ∈ is, at2 A i = none ∧ i < A.length) → Sim K W A H (wipeE ρ is) (L2.wipe σ is)
  | [], S, _ => S
  | i :: is, S, h => by
    have S1 := Sim.wipe (is := is) S fun j hj => h j (List.mem_cons_of_mem _ hj)
    obtain ⟨h1, h2⟩ := h i List.mem_cons_self
    have S2 := S1.drop (i := i) (w := none) (by rw [← S1.lenA]; exact h2)
    rw [set_none h1 h2] at S2
    exact S2
/-- a locked address is written -/
theorem Sim.wrD {p : Addr} {u u' : HO} (S : Sim K W A H ρ σ) (hp : p ∈ W.D) (hu : H p = some u) (ht : ¬ isT u) (h0 : W.H0 p = none) : Sim K W A (upd H p u') ρ σ := by
  have e : Ext [p] H (upd H p u') := Ext.wr (List.mem_singleton.mpr rfl) hu ht
  have s : ∀ b, b ∈ [p] → b ∈ Lk W A := fun b hb => by rw [List.mem_singleton.mp hb]; exact List.mem_append_left _ hp
  have ne : ∀ {i a}, at2 A i = some a → ∀ w, H a = some w → upd H p u' a = some w := fun {i a} h w hw => by
    rw [upd_ne fun z : a = p => S.dsj i a h (by rw [z]; exact hp)]; exact hw
  refine ⟨S.lenA, S.lenS, fun j sv h => ?_, S.free, S.inj, S.dsj, fun b hb z => S.lck b hb (e.dom b z), ⟨fun a o h n => ?_, fun a h => S.ext0.dom a (e.dom a h)⟩⟩
  · obtain ⟨v, h1, h2⟩ := S.slots j sv h
    refine ⟨v, h1, ?_⟩
    cases sv with
    | f g x => exact h2
    | v d => exact ⟨h2.1, h2.2.ext e s⟩
    | m o =>
      obtain ⟨a, q1, q2, q3, q4⟩ := h2
      exact ⟨a, q1, q2, q3, q4.ext e s (ne q1)⟩
    | p o =>
      obtain ⟨a, q1, q2, q3, q4⟩ := h2
      exact ⟨a, q1, q2, q3, q4.ext e s (ne q1)⟩
  · have z : a ≠ p := fun z => by subst z; rw [h0] at h; cases h
    rw [upd_ne z]
    exact S.ext0.keep a o h n
theorem unwipe_len {ρ ρ' : Env} : ∀ is : List Nat, (unwipe ρ ρ' is).length = ρ'.length
  | [] => rfl
  | i :: is => by unfold unwipe; rw [List.length_set, unwipe_len is]
theorem unwipe_in {ρ ρ' : Env} {j : Nat} : ∀ {is : List Nat}, j ∈ is → j < ρ'.length → slot (unwipe ρ ρ' is) j = slot ρ j
  | [], h, _ => by cases h
  | i :: is, h, hj => by
    unfold unwipe
    by_cases e : j = i
    · subst e
      rw [slot_set (by rw [unwipe_len]; exact hj), if_pos rfl]; rfl
    · by_cases hi : i < (unwipe ρ ρ' is).length
      · rw [slot_set hi, if_neg e]
        rcases List.mem_cons.mp h with h | h
        · exact absurd h e
        · exact unwipe_in h hj
      · rw [List.set_eq_of_length_le (by omega)]
        rcases List.mem_cons.mp h with h | h
        · exact absurd h e
        · exact unwipe_in h hj
theorem unwipe_out {ρ ρ' : Env} {j : Nat} : ∀ {is : List Nat}, j ∉ is → slot (unwipe ρ ρ' is) j = slot ρ' j
  | [], _ => rfl
  | i :: is, h => by
    rw [List.mem_cons, not_or] at h
    unfold unwipe
    by_cases hi : i < (unwipe ρ ρ' is).length
    · rw [slot_set hi, if_neg h.1, unwipe_out h.2]
    · rw [List.set_eq_of_length_le (by omega), unwipe_out h.2]
/-- behind a block -/
theorem Sim.unwipe {is : List Nat} {O : List Addr} (S1 : Sim K W A H ρ1 σ) (S2 : Sim K W A H' ρ2 (L2.wipe σ is)) (e : Ext O H H') (hO : ∀ a, a ∈ O → a ∈ Lk W A) (hn : ∀ i ∈ is, at2 A i = none ∧ i < A.length) : Sim K W A H' (Rf.unwipe ρ1 ρ2 is) σ := by
  have hl : ρ2.length = A.length := S2.lenA.symm
  have l2 : (L2.wipe σ is).length = σ.length := wipe_length σ is
  refine ⟨by rw [unwipe_len]; exact S2.lenA, by rw [unwipe_len, ← S2.lenS, l2], fun j s h => ?_, fun j h => ?_, S2.inj, S2.dsj, S2.lck, S2.ext0⟩
  · by_cases q : j ∈ is
    · rw [unwipe_in q (by rw [hl]; exact (hn j q).2)] at h
      obtain ⟨v, h1, h2⟩ := S1.slots j s h
      refine ⟨v, h1, ?_⟩
      cases s with
      | f g x => exact h2
      | v d => exact ⟨h2.1, h2.2.ext e hO⟩
      | m o =>
        obtain ⟨a, z, _⟩ := h2
        rw [(hn j q).1] at z; cases z
      | p o =>
        obtain ⟨a, z, _⟩ := h2
        rw [(hn j q).1] at z; cases z
    · rw [unwipe_out q] at h
      obtain ⟨v, h1, h2⟩ := S2.slots j s h
      exact ⟨v, by rw [← h1, wipe_get q], h2⟩
  · by_cases q : j ∈ is
    · exact (hn j q).1
    · rw [unwipe_out q] at h
      exact S2.free j h
end

/-! ### targets -/
def tgs : Tg → List Nat
  | .n i => [i]
  | .t is => is
def tG (K : PySem.W.Frag) (t : Tg) : TG := fun v σ H Q => ∃ (W : Wd) (A : Own) (ρ : Env) (d : PyData) (ρ' : Env), Sim K W A H ρ σ ∧ Rep K (Lk W A) H d v ∧ bindTg t d ρ = some ρ' ∧
  ∀ σ', Sim K W A H ρ' σ' → σ'.length = σ.length → (∀ j, j ∉ tgs t → σ'[j]? = σ[j]?) → Q σ' H
section
variable {K : PySem.W.Frag} {W : Wd} {A : Own} {H : Hp} {ρ : Env} {σ : St}
theorem Sim.put (S : Sim K W A H ρ σ) {i : Nat} {d : PyData} {v : V} (hn : at2 A i = none ∧ i < A.length) (r : Rep K (Lk W A) H d v) : Sim K W A H (ρ.set i (some (.v d))) (σ.set i (some v)) := by
  have S2 := S.bind (i := i) (by rw [← S.lenA]; exact hn.2) r
  rw [set_none hn.1 hn.2] at S2
  exact S2
def gPuts : List Nat → List V → St → St
  | i :: is, v :: vs, σ => gPuts is vs (σ.set i (some v))
  | _, _, σ => σ
theorem Sim.puts : ∀ {is : List Nat} {ds : List PyData} {vs : List V} {ρ : Env} {σ : St}, Sim K W A H ρ σ → (∀ i ∈ is, at2 A i = none ∧ i < A.length) → RepAll K (Lk W A) H ds vs → is.length = ds.length →
    Sim K W A H ((is.zip ds).foldl (fun r p => r.set p.1 (some (.v p.2))) ρ) (gPuts is vs σ) ∧ (gPuts is vs σ).length = σ.length ∧ ∀ j, j ∉ is → (gPuts is vs σ)[j]? = σ[j]?
  | [], ds, vs, ρ, σ, S, _, r, _ => by
    have e : gPuts [] vs σ = σ := by unfold gPuts; rfl
    rw [e]
    exact ⟨S, rfl, fun _ _ => rfl⟩
  | i :: is, [], vs, ρ, σ, S, _, r, hl => by cases hl
  | i :: is, d :: ds, vs, ρ, σ, S, h, r, hl => by
    cases r with
    | cons r rs =>
      rename_i v vs
      obtain ⟨h1, h2, h3⟩ := Sim.puts (is := is) (S.put (h i List.mem_cons_self) r) (fun j hj => h j (List.mem_cons_of_mem _ hj)) rs (by simpa using hl)
      refine ⟨h1, by rw [show gPuts (i :: is) (v :: vs) σ = gPuts is vs (σ.set i (some v)) from rfl, h2, List.length_set], fun j hj => ?_⟩
      rw [List.mem_cons, not_or] at hj
      rw [show gPuts (i :: is) (v :: vs) σ = gPuts is vs (σ.set i (some v)) from rfl, h3 j hj.2, List.getElem?_set_ne (Ne.symm hj.1)]
end
section
variable {X : Cx} {F : Fn}
/-- a name may be stored -/
def MayPut (X : Cx) (x : Str) : Prop := X.fn x = true ∨ X.env.scope.names.lookup x = some .local
theorem tg_name {N : List Str} {sc : Scope} {i : Nat} {e : Expr} (hX : X.N = N) (hs : X.env.scope = sc) (nd : X.N.Nodup) (h : tgB N sc i e = true) (hp : ∀ x, N[i]? = some x → MayPut X x) : PG X e (gName i) := by
  unfold tgB at h
  split at h
  · rename_i x pos
    rw [Bool.and_eq_true] at h
    have h1 := of_decide_eq_true h.1
    have h2 := h.2
    unfold locB at h2
    rw [Bool.or_eq_true, decide_eq_true_eq, decide_eq_true_eq] at h2
    exact pg_name nd (by rw [hX]; exact h1) (by rw [hs]; exact h2) (hp x h1)
  · cases h
def gAll : List Nat → TGs
  | [] => gNil
  | i :: is => gCons (gName i) (gAll is)
theorem gAll_of : ∀ {is : List Nat} {vs : List V} {σ : St} {H : Hp} {Q : St → Hp → Prop}, is.length = vs.length → Q (gPuts is vs σ) H → gAll is vs σ H Q
  | [], [], σ, H, Q, _, q => ⟨rfl, by simpa [gPuts] using q⟩
  | [], _ :: _, _, _, _, h, _ => by cases h
  | _ :: _, [], _, _, _, h, _ => by cases h
  | i :: is, v :: vs, σ, H, Q, h, q => ⟨v, vs, rfl, gAll_of (is := is) (by simpa using h) q⟩
theorem tgs_list {N : List Str} {sc : Scope} (hX : X.N = N) (hs : X.env.scope = sc) (nd : X.N.Nodup) : ∀ {is : List Nat} {es : List Expr}, tgsB N sc is es = true → (∀ i ∈ is, ∀ x, N[i]? = some x → MayPut X x) →
    PGs X es (gAll is) ∧ (assignEach es X.env).length = is.length ∧ (assignEach es X.env).findIdx? (·.1) = none
  | [], [], _, _ => ⟨pgs_nil, rfl, rfl⟩
  | [], _ :: _, h, _ => by cases h
  | _ :: _, [], h, _ => by cases h
  | i :: is, e :: es, h, hp => by
    have h : (tgB N sc i e && tgsB N sc is es) = true := h
    rw [Bool.and_eq_true] at h
    obtain ⟨h1, h2, h3⟩ := tgs_list hX hs nd h.2 fun j hj => hp j (List.mem_cons_of_mem _ hj)
    have hg := tg_name hX hs nd h.1 (hp i List.mem_cons_self)
    have h' := h.1
    unfold tgB at h'
    split at h'
    · rename_i x pos _
      refine ⟨pgs_cons hg h1 rfl, ?_, ?_⟩
      · show (assignEach es X.env).length + 1 = is.length + 1
        rw [h2]
      · show List.findIdx? (·.1) ((false, assign (.Name x pos) X.env) :: assignEach es X.env) = none
        rw [List.findIdx?_cons]
        simp [h3]
    · cases h'
theorem PG.or {e : Expr} {t t' : TG} (h : PG X e t) (h' : PG X e t') : PG X e (fun v σ H Q => t v σ H Q ∨ t' v σ H Q) := ⟨fun pins s σ H v u Q I r z => z.elim (fun z => h.run pins s σ H v u Q I r z) (fun z => h'.run pins s σ H v u Q I r z)⟩
theorem g_tg {N : List Str} {sc : Scope} {t : Tg} {e : Expr} (hX : X.N = N) (hs : X.env.scope = sc) (nd : X.N.Nodup) (hc : X.calm = true) (h : ckTg N sc t e = true) (hp : ∀ i ∈ tgs t, ∀ x, N[i]? = some x → MayPut X x) : PG X e (tG X.K t) := by
  cases t with
  | n i =>
    refine PG.imp (tg_name hX hs nd (by simpa [ckTg] using h) (hp i (by simp [tgs]))) fun v σ H Q ⟨W, A, ρ, d, ρ', S, r, hb, q⟩ => ?_
    have hb : (if noMo ρ [i] = true then some (ρ.set i (some (.v d))) else none) = some ρ' := by simpa only [bindTg] using hb
    split at hb
    · rename_i hn
      cases hb
      have hi := noMo_at hn S i (by simp)
      exact q _ (S.put hi r) (by simp) fun j hj => List.getElem?_set_ne (by simp [tgs] at hj; omega)
    · cases hb
  | t is =>
    unfold ckTg at h
    split at h <;> first | (cases h; done) | skip
    · rename_i hh; cases hh
    rename_i is' es k pos hh
    cases hh
    obtain ⟨h1, h2, h3⟩ := tgs_list hX hs nd h (fun i hi => hp i hi)
    refine PG.imp (PG.or (pg_tup hc h1 h2 h3) (pg_unl hc h1 h2 h3)) fun v σ H Q ⟨W, A, ρ, d, ρ', S, r, hb, q⟩ => ?_
    unfold bindTg at hb
    split at hb
    · rename_i e1; cases e1
    · rename_i xs e1
      cases e1
      split at hb
      · rename_i hn
        cases hb
        rw [Bool.and_eq_true] at hn
        have hlen := of_decide_eq_true hn.2
        cases r with
        | tup hT rr =>
          have l := rr.length
          obtain ⟨s1, s2, s3⟩ := Sim.puts S (noMo_at hn.1 S) rr hlen
          exact .inl ⟨_, _, rfl, hT, by rw [← l, hlen], gAll_of (by rw [← l, hlen]) (q _ s1 s2 s3)⟩
      · cases hb
    · rename_i xs e1
      cases e1
      split at hb
      · rename_i hn
        cases hb
        rw [Bool.and_eq_true] at hn
        have hlen := of_decide_eq_true hn.2
        obtain ⟨a, vs, rfl, hT, rr⟩ := (Top.of r).list_inv
        have l := rr.length
        obtain ⟨s1, s2, s3⟩ := Sim.puts S (noMo_at hn.1 S) rr hlen
        exact .inr ⟨_, _, rfl, hT.sq, by rw [← l, hlen], gAll_of (by rw [← l, hlen]) (q _ s1 s2 s3)⟩
      · cases hb
    · cases hb
end

/-! ### what is walked -/
structure Wk (O : List Addr) (H1 : Hp) (J : L2.It) (vs : List V) : Prop where
  at_ : ∀ i H, Ext O H1 H → (vs.length ≤ i → J.stop i H) ∧ (i < vs.length → J.go i H) ∧ ∀ x H', i < vs.length → J.yld i H x H' → H' = H ∧ vs[i]? = some x
def tI (K : PySem.W.Frag) (f : Env → Res (List PyData × Env)) : TI := fun σ H R => ∃ (W : Wd) (A : Own) (ρ : Env) (ds : List PyData) (ρ' : Env), Sim K W A H ρ σ ∧ f ρ = .ok (ds, ρ') ∧
  ∀ J vs H', Ext (ow A) H H' → Sim K W A H' ρ' σ → RepAll K (Lk W A) H' ds vs → Wk (Lk W A) H' J vs → R J H'
theorem Wk.mono {O O' : List Addr} {H1 : Hp} {J : L2.It} {vs : List V} (w : Wk O H1 J vs) (h : ∀ a, a ∈ O' → a ∈ O) : Wk O' H1 J vs := ⟨fun i H e => w.at_ i H (e.mono h)⟩
theorem wk_list {K : PySem.W.Frag} {O : List Addr} {H1 : Hp} {a : Addr} {vs : List V} (h : (Rd H1 a (.lst vs) ∧ a ∉ O) ∨ KL K a vs) : Wk O H1 (Itl K a) vs := by
  refine ⟨fun i H e => ?_⟩
  have h' : SqL K H a vs := h.elim (fun h => .inl (Rd.ext e h.2 h.1)) fun h => LsK.sq (.inr h)
  refine ⟨fun hi => ⟨vs, h', hi⟩, fun hi => ⟨vs, vs[i], h', List.getElem?_eq_getElem hi⟩, fun x H' _ hy => ⟨hy.1, hy.2 vs h'⟩⟩
theorem wk_tup {K : PySem.W.Frag} {O : List Addr} {H1 : Hp} {a : Addr} {vs : List V} (h : SqT K H1 a vs) : Wk O H1 (Itt K a) vs := by
  refine ⟨fun i H e => ?_⟩
  have h' : SqT K H a vs := SqT.ext e h
  refine ⟨fun hi => ⟨vs, h', hi⟩, fun hi => ⟨vs, vs[i], h', List.getElem?_eq_getElem hi⟩, fun x H' _ hy => ⟨hy.1, hy.2 vs h'⟩⟩
theorem wk_rng {O : List Addr} {H1 : Hp} {lo : Int} {n : Nat} : Wk O H1 (Itr lo n) ((List.range n).map fun k : Nat => V.int (lo + k)) := by
  refine ⟨fun i H e => ⟨fun hi => by simp at hi; exact hi, fun hi => by simp at hi; exact hi, fun x H' hi hy => ⟨hy.1, ?_⟩⟩⟩
  rw [hy.2]
  have hi : i < n := by simpa using hi
  simp [hi]
theorem wk_rngC {O : List Addr} {H1 : Hp} {lo c : Int} {n : Nat} : Wk O H1 (Itc lo c n) ((List.range n).map fun k : Nat => V.int (lo + k * c)) := by
  refine ⟨fun i H e => ⟨fun hi => by simp at hi; exact hi, fun hi => by simp at hi; exact hi, fun x H' hi hy => ⟨hy.1, ?_⟩⟩⟩
  rw [hy.2]
  have hi : i < n := by simpa using hi
  simp [hi]
theorem rep_rng {K : PySem.W.Frag} {L : List Addr} {H : Hp} (f : Nat → Int) : ∀ l : List Nat, RepAll K L H (l.map fun k => PyData.int (f k)) (l.map fun k => V.int (f k))
  | [] => .nil
  | k :: l => .cons (.int _) (rep_rng f l)
section
variable {X : Cx} {F : Fn} {tg a b c : Expr} {ea eb ec : E} {pos : Pos}
theorem pi_seq {tl : TE} (hl : PE X a tl) : PI X tg a (fun σ H R => tl σ H fun x H1 => ∃ p, x = .ref p ∧ (((∃ xs, SqL X.K H1 p xs) ∧ R (Itl X.K p) H1) ∨ ((∃ xs, SqT X.K H1 p xs) ∧ R (Itt X.K p) H1))) := by
  refine ⟨fun pins s σ H R I h => ?_⟩
  refine thn (hl.run pins s σ H _ I h) fun v s1 ⟨x, H1, I1, r1, p, ex, q⟩ => ?_
  subst ex
  cases r1
  rcases q with ⟨⟨xs, hq⟩, q⟩ | ⟨⟨xs, hq⟩, q⟩
  · obtain ⟨its, rv, pl, hz⟩ := I1.list hq
    exact wpAny_pyIter_list pl.isList (pi_one (tk := s1.toks) I1 _ (turn_list p _) ⟨_, Heap.get?_push_size _ rfl, rfl, rfl⟩ q)
  · obtain ⟨its, rv, pl, hz⟩ := I1.tuple hq
    exact wpAny_pyIter_tuple (show s1.heap.IsTuple p its.toArray from pl) (pi_one (tk := s1.toks) I1 _ (turn_tuple p _) ⟨_, Heap.get?_push_size _ rfl, rfl, rfl⟩ q)
theorem i_e (ha : PE X a (tV X.K (ev F ea))) : PI X tg a (tI X.K (evI F (.e ea))) := by
  refine PI.imp (pi_seq ha) fun σ H R ⟨W, A, ρ, ds, ρ', S, he, q⟩ => ?_
  unfold evI at he
  obtain ⟨⟨ra, ρ1⟩, h1, he⟩ := bnd_inv he
  obtain ⟨d, hd, he⟩ := bnd_inv he
  obtain ⟨xs, hx, he⟩ := bnd_inv he
  cases he
  refine tV.mk S h1 fun va H1 e1 S1 l1 => ?_
  have r := l1.keep (ofO_inv hd)
  have hx := ofO_inv hx
  cases r with
  | lst n h rr =>
    cases hx
    exact ⟨_, rfl, .inl ⟨⟨_, .inl h⟩, q _ _ H1 e1 S1 rr (wk_list (.inl ⟨h, n⟩))⟩⟩
  | lstK h rr =>
    cases hx
    exact ⟨_, rfl, .inl ⟨⟨_, LsK.sq (.inr h)⟩, q _ _ H1 e1 S1 rr (wk_list (.inr h))⟩⟩
  | tup h rr =>
    cases hx
    exact ⟨_, rfl, .inr ⟨⟨_, h⟩, q _ _ H1 e1 S1 rr (wk_tup h)⟩⟩
  | _ => cases hx
theorem smallI_of {i : Int} (h : smallI i = true) : -(2 ^ 62) ≤ i ∧ i < 2 ^ 62 := by
  unfold smallI at h
  rw [Bool.and_eq_true] at h
  exact ⟨of_decide_eq_true h.1, of_decide_eq_true h.2⟩
theorem asInt_of {K : PySem.W.Frag} {L : List Addr} {H : Hp} {d : PyData} {v : V} {i : Int} (r : Rep K L H d v) (h : ofO (asInt d) = .ok i) : v = .int i := by
  have h := ofO_inv h
  cases d <;> first | (cases h; done) | skip
  cases h
  exact r.int_inv
theorem i_r1 {p : Pos} (hg : Gl X "range") (hm : X.mg "range" = none) (ha : PE X a (tV X.K (ev F ea))) (hb : starB a = false) : PI X tg (.Call (.Name "range" p) [a] [] pos) (tI X.K (evI F (.r1 ea))) := by
  refine PI.imp (pi_range1 hg hm (pa_cons ha pa_nil (star_one hb)) (star_one hb)) fun σ H R ⟨W, A, ρ, ds, ρ', S, he, q⟩ => ?_
  unfold evI at he
  obtain ⟨⟨ra, ρ1⟩, h1, he⟩ := bnd_inv he
  obtain ⟨d, hd, he⟩ := bnd_inv he
  obtain ⟨j, hj, he⟩ := bnd_inv he
  split at he
  · rename_i sm
    cases he
    refine tV.mk S h1 fun va H1 e1 S1 l1 => ?_
    cases asInt_of (l1.keep (ofO_inv hd)) hj
    obtain ⟨b1, b2⟩ := smallI_of sm
    exact ⟨_, rfl, b1, b2, q _ _ H1 e1 S1 (rep_rng (fun k => 0 + (k : Int)) _) wk_rng⟩
  · cases he
theorem i_r2 {p : Pos} (hg : Gl X "range") (hm : X.mg "range" = none) (ha : PE X a (tV X.K (ev F ea))) (hb : PE X b (tV X.K (ev F eb))) (sa : starB a = false) (sb : starB b = false) : PI X tg (.Call (.Name "range" p) [a, b] [] pos) (tI X.K (evI F (.r2 ea eb))) := by
  refine PI.imp (pi_range2 hg hm (pa_cons ha (pa_cons hb pa_nil (star_one sb)) (star_one sa)) (by rw [star_one sa, star_one sb] <;> rfl) (star_one sb)) fun σ H R ⟨W, A, ρ, ds, ρ', S, he, q⟩ => ?_
  unfold evI at he
  obtain ⟨⟨ra, ρ1⟩, h1, he⟩ := bnd_inv he
  obtain ⟨⟨rb, ρ2⟩, h2, he⟩ := bnd_inv he
  obtain ⟨d, hd, he⟩ := bnd_inv he
  obtain ⟨i, hi, he⟩ := bnd_inv he
  obtain ⟨d2, hd2, he⟩ := bnd_inv he
  obtain ⟨j, hj, he⟩ := bnd_inv he
  split at he
  · rename_i sm
    cases he
    rw [Bool.and_eq_true] at sm
    refine tV.mk S h1 fun va H1 e1 S1 l1 => tV.mk S1 h2 fun vb H2 e2 S2 l2 => ?_
    cases asInt_of (l1.keep (ofO_inv hd)) hi
    cases asInt_of (l2.keep (ofO_inv hd2)) hj
    obtain ⟨b1, b2⟩ := smallI_of sm.1
    obtain ⟨b3, b4⟩ := smallI_of sm.2
    exact ⟨_, _, rfl, ⟨b1, b2, b3, b4⟩, q _ _ H2 (e1.trans e2) S2 (rep_rng (fun k => i + (k : Int)) _) wk_rng⟩
  · cases he
theorem i_r3 {p : Pos} (hg : Gl X "range") (hm : X.mg "range" = none) (ha : PE X a (tV X.K (ev F ea))) (hb : PE X b (tV X.K (ev F eb))) (hc : PE X c (tV X.K (ev F ec))) (sa : starB a = false) (sb : starB b = false) (sc : starB c = false) :
    PI X tg (.Call (.Name "range" p) [a, b, c] [] pos) (tI X.K (evI F (.r3 ea eb ec))) := by
  refine PI.imp (pi_range3 hg hm (pa_cons ha (pa_cons hb (pa_cons hc pa_nil (star_one sc)) (star_one sb)) (star_one sa)) (star_one sa) (star_none (by simp [sb, sc]))) fun σ H R ⟨W, A, ρ, ds, ρ', S, he, q⟩ => ?_
  unfold evI at he
  obtain ⟨⟨ra, ρ1⟩, h1, he⟩ := bnd_inv he
  obtain ⟨⟨rb, ρ2⟩, h2, he⟩ := bnd_inv he
  obtain ⟨⟨rc, ρ3⟩, h3, he⟩ := bnd_inv he
  obtain ⟨d, hd, he⟩ := bnd_inv he
  obtain ⟨i, hi, he⟩ := bnd_inv he
  obtain ⟨d2, hd2, he⟩ := bnd_inv he
  obtain ⟨j, hj, he⟩ := bnd_inv he
  obtain ⟨d3, hd3, he⟩ := bnd_inv he
  obtain ⟨c0, hc0, he⟩ := bnd_inv he
  split at he
  · rename_i sm
    cases he
    unfold rng3B at sm
    simp only [Bool.and_eq_true, decide_eq_true_eq] at sm
    obtain ⟨⟨⟨m1, m2⟩, m3⟩, m4⟩ := sm
    refine tV.mk S h1 fun va H1 e1 S1 l1 => tV.mk S1 h2 fun vb H2 e2 S2 l2 => tV.mk S2 h3 fun vc H3 e3 S3 l3 => ?_
    cases asInt_of (l1.keep (ofO_inv hd)) hi
    cases asInt_of (l2.keep (ofO_inv hd2)) hj
    cases asInt_of (l3.keep (ofO_inv hd3)) hc0
    exact ⟨i, j, c0, rng3N i j c0, rfl, ⟨m1, m2, m3, by unfold rng3N; omega⟩, q _ _ H3 ((e1.trans e2).trans e3) S3 (rep_rng (fun k => i + (k : Int) * c0) _) wk_rngC⟩
  · cases he
end
end Rf

set_option Elab.async false
set_option linter.all false
set_option maxRecDepth 100000
set_option maxHeartbeats 4000000
/-! Rf10: comprehensions. -/
namespace Rf
open PySem PySem.Spec L2

/-- the block's own tests -/
def tC2 (K : PySem.W.Frag) (f : Env → Res (Bool × Env)) : TT := tB2 K f
section
variable {X : Cx} {F : Fn} {a : Expr} {ea : E}
theorem c_none : PTs X [] (tB2 X.K (evC F .none)) := by
  refine PTs.imp pts_nil fun σ H Q ⟨W, A, ρ, k, ρ', S, he, q⟩ => ?_
  unfold evC at he
  cases he
  exact q H (Ext.refl _ _) S
theorem c_some (h : PT X a (tB2 X.K (evB F ea))) : PTs X [a] (tB2 X.K (evC F (.some ea))) := by
  refine PTs.imp (pts_one h) fun σ H Q ⟨W, A, ρ, k, ρ', S, he, q⟩ => ?_
  unfold evC at he
  obtain ⟨⟨ra, ρ1⟩, h1, he⟩ := bnd_inv he
  obtain ⟨b, hb, he⟩ := bnd_inv he
  cases he
  cases isB_inv hb
  exact ⟨W, A, ρ, _, _, S, evB_of h1, q⟩
end

theorem Ext.cut {O : List Addr} {H1 H : Hp} {D : Addr} {u : HO} (hD : H1 D = none) (e : Ext (D :: O) (upd H1 D u) H) : Ext O H1 H := by
  refine ⟨fun a o h n => e.keep a o ?_ ?_, fun a h => ?_⟩
  · rw [upd_ne fun z : a = D => by subst z; rw [hD] at h; cases h]; exact h
  · rcases n with n | n
    · refine .inl fun z => ?_
      rcases List.mem_cons.mp z with z | z
      · subst z; rw [hD] at h; cases h
      · exact n z
    · exact .inr n
  · have z := e.dom a h
    by_cases q : a = D
    · subst q; rw [upd_same] at z; cases z
    · rw [upd_ne q] at z; exact z
section
variable {K : PySem.W.Frag} {W : Wd} {A : Own} {H1 : Hp}
/-- what a comprehension keeps while it runs -/
structure CInv (K : PySem.W.Frag) (W : Wd) (A : Own) (H1 : Hp) (D : Addr) (σw : St) (step : Nat → Env → List PyData → Prop) (i : Nat) (H : Hp) : Prop where
  mk' ::
  ex : ∃ (ρi : Env) (acc : List PyData) (vacc : List V), H D = some (.lst vacc) ∧ RepAll K (Lk W A) H acc vacc ∧ Sim K { W with D := D :: W.D } A H ρi σw ∧ Ext (D :: ow A) (upd H1 D (.lst [])) H ∧ step i ρi acc
/-- the rule of a comprehension, in the machine's terms -/
theorem comp_rule {σ : St} {ρ1 : Env} {own : List Nat} {xs ds : List PyData} {vs : List V} {J : L2.It} {tg : Tg} {fc : EvB} {fe : EvR} {ρ2 : Env} {D : Addr} {Qd : Hp → Prop}
    (S1 : Sim K W A H1 ρ1 σ) (hn : noMo ρ1 own = true) (hr : compR own (bindTg tg) fc fe xs (wipeE ρ1 own) [] = .ok (ds, ρ2))
    (rv : RepAll K (Lk W A) H1 xs vs) (wk : Wk (ow A) H1 J vs) (htg : ∀ j ∈ tgs tg, j ∈ own) (hD : H1 D = none)
    (q : ∀ H, Ext (ow A) H1 H → Sim K { W with D := D :: W.D } A H (unwipe ρ1 ρ2 own) σ → MoOk K (Lk { W with D := D :: W.D } A) H (.l ds) D → Qd H) :
    ∃ Wf : Nat → Nat → Hp → Prop, (∃ m, Wf 0 m (upd H1 D (.lst []))) ∧ ∀ i m H, Wf i m H →
      (J.stop i H ∧ Qd H) ∨ (J.go i H ∧ ∃ Nx : Hp → Prop, (∀ H', Nx H' → ∃ m', m' < m ∧ Wf (i + 1) m' H') ∧ ∀ x H', J.yld i H x H' → tG K tg x (wipe σ own) H' fun σ2 H2 => wipe σ2 own = wipe σ own ∧ tB2 K fc σ2 H2 fun b H3 =>
        if b = true then tV K fe σ2 H3 fun y H4 => ∃ acc, H4 D = some (.lst acc) ∧ acc.length < sizeLine ∧ Nx (upd H4 D (.lst (acc ++ [y]))) else Nx H3) := by
  have no := noMo_at hn S1
  have lv := rv.length
  let W' : Wd := { W with D := D :: W.D }
  have oL : ∀ a, a ∈ ow A → a ∈ Lk W A := ow_Lk
  have dO : ∀ a, a ∈ D :: ow A → a ∈ Lk W' A := fun a h => by
    rcases List.mem_cons.mp h with h | h
    · subst h; exact List.mem_append_left _ List.mem_cons_self
    · exact List.mem_append_right _ h
  have sub : ∀ b, b ∈ Lk W A → b ∈ Lk W' A := fun b q => by
    rcases List.mem_append.mp q with q | q
    · exact List.mem_append_left _ (List.mem_cons_of_mem _ q)
    · exact List.mem_append_right _ q
  have addD : ∀ a, a ∈ Lk W' A → a ∈ Lk W A ∨ H1 a = none := fun a q => by
    rcases List.mem_append.mp q with q | q
    · rcases List.mem_cons.mp q with q | q
      · subst q; exact .inr hD
      · exact .inl (List.mem_append_left _ q)
    · exact .inl (List.mem_append_right _ q)
  let turns := compR own (bindTg tg) fc fe
  let Pv : Nat → Hp → Prop := fun i H => ∃ (ρi : Env) (acc : List PyData) (vacc : List V), H D = some (.lst vacc) ∧ RepAll K (Lk W' A) H acc vacc ∧ Sim K W' A H ρi (wipe σ own) ∧ Ext (D :: ow A) (upd H1 D (.lst [])) H ∧ turns (xs.drop i) ρi acc = .ok (ds, ρ2)
  have S0 : Sim K W' A (upd H1 D (.lst [])) (wipeE ρ1 own) (wipe σ own) := (S1.wipe no).lock hD
  refine ⟨fun i m H => m = vs.length - i ∧ i ≤ vs.length ∧ Pv i H, ⟨vs.length, by simp, Nat.zero_le _, wipeE ρ1 own, [], [], upd_same, .nil, S0, Ext.refl _ _, hr⟩, ?_⟩
  rintro i m H ⟨rfl, hi, ρi, acc, vacc, hacc, racc, Si, e, ht⟩
  have e1 : Ext (ow A) H1 H := e.cut hD
  obtain ⟨w1, w2, w3⟩ := wk.at_ i H e1
  by_cases hlt : i < vs.length
  · refine .inr ⟨w2 hlt, Pv (i + 1), fun H' p' => ⟨vs.length - (i + 1), by omega, rfl, hlt, p'⟩, fun x H' y => ?_⟩
    obtain ⟨rfl, hx⟩ := w3 x H' hlt y
    obtain ⟨d, hd, rd⟩ := rv.get' hx
    have rd' : Rep K (Lk W' A) H' d x := (rd.add addD).ext (O := ow A) e1 fun a h => List.mem_append_right _ h
    have hdrop : xs.drop i = d :: xs.drop (i + 1) := by
      obtain ⟨h1, h2⟩ := List.getElem?_eq_some_iff.mp hd
      rw [List.drop_eq_getElem_cons h1, h2]
    rw [hdrop] at ht
    have ht : ((ofO (bindTg tg d ρi)).bnd fun ρ1 => (fc ρ1).bnd fun (b, ρ2) =>
      if b = true then (fe ρ2).bnd fun (r, ρ3) => (ofO (keep r)).bnd fun d => if acc.length < lim then turns (xs.drop (i + 1)) (wipeE ρ3 own) (acc ++ [d]) else .bad
      else turns (xs.drop (i + 1)) (wipeE ρ2 own) acc) = .ok (ds, ρ2) := ht
    obtain ⟨ρa, ha, ht⟩ := bnd_inv ht
    obtain ⟨⟨b, ρb⟩, hb, ht⟩ := bnd_inv ht
    refine ⟨W', A, ρi, d, ρa, Si, rd', ofO_inv ha, fun σ2 S2 hl hk => ?_⟩
    have hw : wipe σ2 own = wipe σ own := by
      have z : (wipe σ own).length = σ.length := wipe_length σ own
      refine wipe_eq (hl.trans z) fun j hj => ?_
      rw [hk j fun z => hj (htg j z), wipe_get hj]
    have no2 : ∀ j ∈ own, at2 A j = none ∧ j < A.length := no
    refine ⟨hw, W', A, ρa, b, ρb, S2, hb, fun H3 e3 S3 => ?_⟩
    have e3' : Ext (D :: ow A) H' H3 := e3.mono fun a h => List.mem_cons_of_mem _ h
    have nD : D ∉ ow A := fun z => by
      obtain ⟨k, hk⟩ := ow_at2 z
      exact Si.dsj k D hk List.mem_cons_self
    have h3 : H3 D = some (.lst vacc) := e3.keep _ _ hacc (.inl nD)
    cases b with
    | false =>
      refine iteF ⟨wipeE ρb own, acc, vacc, h3, racc.ext (O := ow A) e3 fun a h => List.mem_append_right _ h, ?_, e.trans e3', ?_⟩
      · have z := S3.wipe no2
        rw [hw] at z; exact z
      · exact ht
    | true =>
      refine iteT ?_
      have ht : ((fe ρb).bnd fun (r, ρ3) => (ofO (keep r)).bnd fun d => if acc.length < lim then turns (xs.drop (i + 1)) (wipeE ρ3 own) (acc ++ [d]) else .bad) = .ok (ds, ρ2) := ht
      obtain ⟨⟨r1, ρc⟩, h5, ht⟩ := bnd_inv ht
      obtain ⟨d1, h7, ht⟩ := bnd_inv ht
      refine tV.mk S3 h5 fun y H4 e4 S4 l4 => ?_
      have r4 := l4.keep (ofO_inv h7)
      have e4' : Ext (D :: ow A) H3 H4 := e4.mono fun a h => List.mem_cons_of_mem _ h
      have h4D : H4 D = some (.lst vacc) := e4.keep _ _ h3 (.inl nD)
      have racc4 : RepAll K (Lk W' A) H4 acc vacc := (racc.ext (O := ow A) e3 fun a h => List.mem_append_right _ h).ext (O := ow A) e4 fun a h => List.mem_append_right _ h
      have ht : (if acc.length < lim then turns (xs.drop (i + 1)) (wipeE ρc own) (acc ++ [d1]) else .bad) = .ok (ds, ρ2) := ht
      split at ht
      · rename_i hz
        have e5 : Ext (D :: ow A) H4 (upd H4 D (.lst (vacc ++ [y]))) := Ext.wr List.mem_cons_self h4D (fun z => z.elim)
        refine ⟨vacc, h4D, by rw [← racc4.length, ← lim_eq]; exact hz, wipeE ρc own, acc ++ [d1], vacc ++ [y], upd_same, (racc4.append (.cons r4 .nil)).ext e5 dO, ?_, ((e.trans e3').trans e4').trans e5, ht⟩
        have z := (S4.wrD (p := D) (u' := .lst (vacc ++ [y])) List.mem_cons_self h4D (fun z => z.elim) ?_).wipe no2
        · rw [hw] at z; exact z
        · show W.H0 D = none
          exact S1.ext0.dom D hD
      · cases ht
  · have ei : i = vs.length := by omega
    subst ei
    refine .inl ⟨w1 (Nat.le_refl _), ?_⟩
    have hdrop : xs.drop vs.length = [] := List.drop_eq_nil_of_le (by omega)
    rw [hdrop] at ht
    have ht : Res.ok (acc, ρi) = .ok (ds, ρ2) := ht
    cases ht
    have e0 : Ext (D :: ow A) (upd H1 D (.lst [])) H := e
    have S1' : Sim K W' A (upd H1 D (.lst [])) ρ1 σ := S1.lock hD
    refine q H e1 (S1'.unwipe Si e dO no) (.l hacc racc)
end

/-! ### a comprehension of two clauses -/
section
variable {K : PySem.W.Frag} {W : Wd} {A : Own} {H1 : Hp}
/-- the inner clause, from a heap that has the new list -/
theorem comp_in {σ : St} {ρ1 : Env} {own : List Nat} {xs ds acc0 : List PyData} {vs vacc0 : List V} {J : L2.It} {tg : Tg} {fc : EvB} {fe : EvR} {ρ2 : Env} {D : Addr} {Nx : Hp → Prop}
    (S1 : Sim K W A H1 ρ1 σ) (hn : noMo ρ1 own = true) (hr : compR own (bindTg tg) fc fe xs (wipeE ρ1 own) acc0 = .ok (ds, ρ2)) (hDW : D ∈ W.D) (hD0 : W.H0 D = none)
    (h1D : H1 D = some (.lst vacc0)) (racc0 : RepAll K (Lk W A) H1 acc0 vacc0) (rv : RepAll K (Lk W A) H1 xs vs) (wk : Wk (Lk W A) H1 J vs) (htg : ∀ j ∈ tgs tg, j ∈ own)
    (q : ∀ H vacc, Ext (D :: ow A) H1 H → H D = some (.lst vacc) → RepAll K (Lk W A) H ds vacc → Sim K W A H ρ2 (wipe σ own) → Nx H) :
    ∃ Wf : Nat → Nat → Hp → Prop, (∃ m, Wf 0 m H1) ∧ ∀ i m H, Wf i m H →
      (J.stop i H ∧ Nx H) ∨ (J.go i H ∧ ∃ Nx1 : Hp → Prop, (∀ H', Nx1 H' → ∃ m', m' < m ∧ Wf (i + 1) m' H') ∧ ∀ x H', J.yld i H x H' → tG K tg x (wipe σ own) H' fun σ2 H2 => wipe σ2 own = wipe σ own ∧ tB2 K fc σ2 H2 fun b H3 =>
        if b = true then tV K fe σ2 H3 fun y H4 => ∃ acc, H4 D = some (.lst acc) ∧ acc.length < sizeLine ∧ Nx1 (upd H4 D (.lst (acc ++ [y]))) else Nx1 H3) := by
  have no := noMo_at hn S1
  have lv := rv.length
  have dO : ∀ a, a ∈ D :: ow A → a ∈ Lk W A := fun a h => by
    rcases List.mem_cons.mp h with h | h
    · subst h; exact List.mem_append_left _ hDW
    · exact List.mem_append_right _ h
  let turns := compR own (bindTg tg) fc fe
  let Pv : Nat → Hp → Prop := fun i H => ∃ (ρi : Env) (acc : List PyData) (vacc : List V), H D = some (.lst vacc) ∧ RepAll K (Lk W A) H acc vacc ∧ Sim K W A H ρi (wipe σ own) ∧ Ext (D :: ow A) H1 H ∧ turns (xs.drop i) ρi acc = .ok (ds, ρ2)
  refine ⟨fun i m H => m = vs.length - i ∧ i ≤ vs.length ∧ Pv i H, ⟨vs.length, by simp, Nat.zero_le _, wipeE ρ1 own, acc0, vacc0, h1D, racc0, S1.wipe no, Ext.refl _ _, hr⟩, ?_⟩
  rintro i m H ⟨rfl, hi, ρi, acc, vacc, hacc, racc, Si, e, ht⟩
  obtain ⟨w1, w2, w3⟩ := wk.at_ i H (e.mono dO)
  by_cases hlt : i < vs.length
  · refine .inr ⟨w2 hlt, Pv (i + 1), fun H' p' => ⟨vs.length - (i + 1), by omega, rfl, hlt, p'⟩, fun x H' y => ?_⟩
    obtain ⟨rfl, hx⟩ := w3 x H' hlt y
    obtain ⟨d, hd, rd⟩ := rv.get' hx
    have rd' : Rep K (Lk W A) H' d x := rd.ext e dO
    have hdrop : xs.drop i = d :: xs.drop (i + 1) := by
      obtain ⟨h1, h2⟩ := List.getElem?_eq_some_iff.mp hd
      rw [List.drop_eq_getElem_cons h1, h2]
    rw [hdrop] at ht
    have ht : ((ofO (bindTg tg d ρi)).bnd fun ρ1 => (fc ρ1).bnd fun (b, ρ2) =>
      if b = true then (fe ρ2).bnd fun (r, ρ3) => (ofO (keep r)).bnd fun d => if acc.length < lim then turns (xs.drop (i + 1)) (wipeE ρ3 own) (acc ++ [d]) else .bad
      else turns (xs.drop (i + 1)) (wipeE ρ2 own) acc) = .ok (ds, ρ2) := ht
    obtain ⟨ρa, ha, ht⟩ := bnd_inv ht
    obtain ⟨⟨b, ρb⟩, hb, ht⟩ := bnd_inv ht
    refine ⟨W, A, ρi, d, ρa, Si, rd', ofO_inv ha, fun σ2 S2 hl hk => ?_⟩
    have hw : wipe σ2 own = wipe σ own := by
      have z : (wipe σ own).length = σ.length := wipe_length σ own
      refine wipe_eq (hl.trans z) fun j hj => ?_
      rw [hk j fun z => hj (htg j z), wipe_get hj]
    refine ⟨hw, W, A, ρa, b, ρb, S2, hb, fun H3 e3 S3 => ?_⟩
    have e3' : Ext (D :: ow A) H' H3 := e3.mono fun a h => List.mem_cons_of_mem _ h
    have nD : D ∉ ow A := fun z => by
      obtain ⟨k, hk⟩ := ow_at2 z
      exact Si.dsj k D hk hDW
    have h3 : H3 D = some (.lst vacc) := e3.keep _ _ hacc (.inl nD)
    cases b with
    | false =>
      refine iteF ⟨wipeE ρb own, acc, vacc, h3, racc.ext (O := ow A) e3 fun a h => List.mem_append_right _ h, ?_, e.trans e3', ?_⟩
      · have z := S3.wipe no
        rw [hw] at z; exact z
      · exact ht
    | true =>
      refine iteT ?_
      have ht : ((fe ρb).bnd fun (r, ρ3) => (ofO (keep r)).bnd fun d => if acc.length < lim then turns (xs.drop (i + 1)) (wipeE ρ3 own) (acc ++ [d]) else .bad) = .ok (ds, ρ2) := ht
      obtain ⟨⟨r1, ρc⟩, h5, ht⟩ := bnd_inv ht
      obtain ⟨d1, h7, ht⟩ := bnd_inv ht
      refine tV.mk S3 h5 fun y H4 e4 S4 l4 => ?_
      have r4 := l4.keep (ofO_inv h7)
      have e4' : Ext (D :: ow A) H3 H4 := e4.mono fun a h => List.mem_cons_of_mem _ h
      have h4D : H4 D = some (.lst vacc) := e4.keep _ _ h3 (.inl nD)
      have racc4 : RepAll K (Lk W A) H4 acc vacc := (racc.ext (O := ow A) e3 fun a h => List.mem_append_right _ h).ext (O := ow A) e4 fun a h => List.mem_append_right _ h
      have ht : (if acc.length < lim then turns (xs.drop (i + 1)) (wipeE ρc own) (acc ++ [d1]) else .bad) = .ok (ds, ρ2) := ht
      split at ht
      · rename_i hz
        have e5 : Ext (D :: ow A) H4 (upd H4 D (.lst (vacc ++ [y]))) := Ext.wr List.mem_cons_self h4D (fun z => z.elim)
        refine ⟨vacc, h4D, by rw [← racc4.length, ← lim_eq]; exact hz, wipeE ρc own, acc ++ [d1], vacc ++ [y], upd_same, (racc4.append (.cons r4 .nil)).ext e5 dO, ?_, ((e.trans e3').trans e4').trans e5, ht⟩
        have z := (S4.wrD (p := D) (u' := .lst (vacc ++ [y])) hDW h4D (fun z => z.elim) hD0).wipe no
        rw [hw] at z; exact z
      · cases ht
  · have ei : i = vs.length := by omega
    subst ei
    have hdrop : xs.drop vs.length = [] := List.drop_eq_nil_of_le (by omega)
    rw [hdrop] at ht
    have ht : Res.ok (acc, ρi) = .ok (ds, ρ2) := ht
    cases ht
    exact .inl ⟨w1 (Nat.le_refl _), q H vacc e hacc racc Si⟩
/-- both clauses -/
theorem comp_rule2 {F : Fn} {σ : St} {ρ1 : Env} {own own1 : List Nat} {xs ds : List PyData} {vs : List V} {J : L2.It} {tg tg1 : Tg} {fc fc1 : EvB} {fe : EvR} {it1 : It} {ρ2 : Env} {D : Addr} {Qd : Hp → Prop}
    (S1 : Sim K W A H1 ρ1 σ) (hn : noMo ρ1 own = true)
    (hr : compQ own (bindTg tg) fc (fun ρ3 acc => (evI F it1 ρ3).bnd fun (ys, ρ4) => if noMo ρ4 own1 = true then compR own1 (bindTg tg1) fc1 fe ys (wipeE ρ4 own1) acc else .bad) xs (wipeE ρ1 own) [] = .ok (ds, ρ2))
    (rv : RepAll K (Lk W A) H1 xs vs) (wk : Wk (ow A) H1 J vs) (htg : ∀ j ∈ tgs tg, j ∈ own) (htg1 : ∀ j ∈ tgs tg1, j ∈ own1) (ho : ∀ j ∈ own1, j ∈ own) (hD : H1 D = none)
    (q : ∀ H, Ext (ow A) H1 H → Sim K { W with D := D :: W.D } A H (unwipe ρ1 ρ2 own) σ → MoOk K (Lk { W with D := D :: W.D } A) H (.l ds) D → Qd H) :
    ∃ Wf : Nat → Nat → Hp → Prop, (∃ m, Wf 0 m (upd H1 D (.lst []))) ∧ ∀ i m H, Wf i m H →
      (J.stop i H ∧ Qd H) ∨ (J.go i H ∧ ∃ Nx : Hp → Prop, (∀ H', Nx H' → ∃ m', m' < m ∧ Wf (i + 1) m' H') ∧ ∀ x H', J.yld i H x H' → tG K tg x (wipe σ own) H' fun σ2 H2 => wipe σ2 own = wipe σ own ∧ tB2 K fc σ2 H2 fun b H3 =>
        if b = true then tI K (evI F it1) σ2 H3 fun J1 H4 => ∃ W1 : Nat → Nat → Hp → Prop, (∃ m, W1 0 m H4) ∧ ∀ j k H, W1 j k H →
          (J1.stop j H ∧ Nx H) ∨ (J1.go j H ∧ ∃ Nx1 : Hp → Prop, (∀ H', Nx1 H' → ∃ k', k' < k ∧ W1 (j + 1) k' H') ∧ ∀ x H', J1.yld j H x H' → tG K tg1 x (wipe σ2 own1) H' fun σ3 H5 => wipe σ3 own1 = wipe σ2 own1 ∧ tB2 K fc1 σ3 H5 fun b H6 =>
            if b = true then tV K fe σ3 H6 fun y H7 => ∃ acc, H7 D = some (.lst acc) ∧ acc.length < sizeLine ∧ Nx1 (upd H7 D (.lst (acc ++ [y]))) else Nx1 H6)
        else Nx H3) := by
  have no := noMo_at hn S1
  have lv := rv.length
  let W' : Wd := { W with D := D :: W.D }
  have dW : D ∈ W'.D := List.mem_cons_self
  have dO : ∀ a, a ∈ D :: ow A → a ∈ Lk W' A := fun a h => by
    rcases List.mem_cons.mp h with h | h
    · subst h; exact List.mem_append_left _ List.mem_cons_self
    · exact List.mem_append_right _ h
  have addD : ∀ a, a ∈ Lk W' A → a ∈ Lk W A ∨ H1 a = none := fun a q => by
    rcases List.mem_append.mp q with q | q
    · rcases List.mem_cons.mp q with q | q
      · subst q; exact .inr hD
      · exact .inl (List.mem_append_left _ q)
    · exact .inl (List.mem_append_right _ q)
  let inner : Env → List PyData → Res (List PyData × Env) := fun ρ3 acc => (evI F it1 ρ3).bnd fun (ys, ρ4) => if noMo ρ4 own1 = true then compR own1 (bindTg tg1) fc1 fe ys (wipeE ρ4 own1) acc else .bad
  let turns := compQ own (bindTg tg) fc inner
  let Pv : Nat → Hp → Prop := fun i H => ∃ (ρi : Env) (acc : List PyData) (vacc : List V), H D = some (.lst vacc) ∧ RepAll K (Lk W' A) H acc vacc ∧ Sim K W' A H ρi (wipe σ own) ∧ Ext (D :: ow A) (upd H1 D (.lst [])) H ∧ turns (xs.drop i) ρi acc = .ok (ds, ρ2)
  have S0 : Sim K W' A (upd H1 D (.lst [])) (wipeE ρ1 own) (wipe σ own) := (S1.wipe no).lock hD
  have hD0 : W'.H0 D = none := S1.ext0.dom D hD
  refine ⟨fun i m H => m = vs.length - i ∧ i ≤ vs.length ∧ Pv i H, ⟨vs.length, by simp, Nat.zero_le _, wipeE ρ1 own, [], [], upd_same, .nil, S0, Ext.refl _ _, hr⟩, ?_⟩
  rintro i m H ⟨rfl, hi, ρi, acc, vacc, hacc, racc, Si, e, ht⟩
  have e1 : Ext (ow A) H1 H := e.cut hD
  obtain ⟨w1, w2, w3⟩ := wk.at_ i H e1
  by_cases hlt : i < vs.length
  · refine .inr ⟨w2 hlt, Pv (i + 1), fun H' p' => ⟨vs.length - (i + 1), by omega, rfl, hlt, p'⟩, fun x H' y => ?_⟩
    obtain ⟨rfl, hx⟩ := w3 x H' hlt y
    obtain ⟨d, hd, rd⟩ := rv.get' hx
    have rd' : Rep K (Lk W' A) H' d x := (rd.add addD).ext (O := ow A) e1 fun a h => List.mem_append_right _ h
    have hdrop : xs.drop i = d :: xs.drop (i + 1) := by
      obtain ⟨h1, h2⟩ := List.getElem?_eq_some_iff.mp hd
      rw [List.drop_eq_getElem_cons h1, h2]
    rw [hdrop] at ht
    have ht : ((ofO (bindTg tg d ρi)).bnd fun ρ1 => (fc ρ1).bnd fun (b, ρ2) =>
      if b = true then (inner ρ2 acc).bnd fun (acc2, ρ3) => turns (xs.drop (i + 1)) (wipeE ρ3 own) acc2
      else turns (xs.drop (i + 1)) (wipeE ρ2 own) acc) = .ok (ds, ρ2) := ht
    obtain ⟨ρa, ha, ht⟩ := bnd_inv ht
    obtain ⟨⟨b, ρb⟩, hb, ht⟩ := bnd_inv ht
    refine ⟨W', A, ρi, d, ρa, Si, rd', ofO_inv ha, fun σ2 S2 hl hk => ?_⟩
    have hw : wipe σ2 own = wipe σ own := by
      have z : (wipe σ own).length = σ.length := wipe_length σ own
      refine wipe_eq (hl.trans z) fun j hj => ?_
      rw [hk j fun z => hj (htg j z), wipe_get hj]
    have hw1 : wipe (wipe σ2 own1) own = wipe σ own := by
      rw [← hw]
      exact wipe_eq (wipe_length _ _) fun j hj => wipe_get fun z => hj (ho j z)
    have no2 : ∀ j ∈ own, at2 A j = none ∧ j < A.length := no
    refine ⟨hw, W', A, ρa, b, ρb, S2, hb, fun H3 e3 S3 => ?_⟩
    have e3' : Ext (D :: ow A) H' H3 := e3.mono fun a h => List.mem_cons_of_mem _ h
    have nD : D ∉ ow A := fun z => by
      obtain ⟨k, hk⟩ := ow_at2 z
      exact Si.dsj k D hk List.mem_cons_self
    have h3 : H3 D = some (.lst vacc) := e3.keep _ _ hacc (.inl nD)
    have racc3 : RepAll K (Lk W' A) H3 acc vacc := racc.ext (O := ow A) e3 fun a h => List.mem_append_right _ h
    cases b with
    | false =>
      refine iteF ⟨wipeE ρb own, acc, vacc, h3, racc3, ?_, e.trans e3', ?_⟩
      · have z := S3.wipe no2
        rw [hw] at z; exact z
      · exact ht
    | true =>
      refine iteT ?_
      have ht : (inner ρb acc).bnd (fun (acc2, ρ3) => turns (xs.drop (i + 1)) (wipeE ρ3 own) acc2) = .ok (ds, ρ2) := ht
      obtain ⟨⟨acc2, ρc⟩, h5, ht⟩ := bnd_inv ht
      have h5 : ((evI F it1 ρb).bnd fun (ys, ρ4) => if noMo ρ4 own1 = true then compR own1 (bindTg tg1) fc1 fe ys (wipeE ρ4 own1) acc else .bad) = .ok (acc2, ρc) := h5
      obtain ⟨⟨ys, ρ4⟩, h6, h5⟩ := bnd_inv h5
      have h5 : (if noMo ρ4 own1 = true then compR own1 (bindTg tg1) fc1 fe ys (wipeE ρ4 own1) acc else .bad) = .ok (acc2, ρc) := h5
      split at h5
      · rename_i hn1
        refine ⟨W', A, ρb, ys, ρ4, S3, h6, fun J1 vs1 H4 e4 S4 rv1 wk1 => ?_⟩
        have e4' : Ext (D :: ow A) H3 H4 := e4.mono fun a h => List.mem_cons_of_mem _ h
        have h4D : H4 D = some (.lst vacc) := e4.keep _ _ h3 (.inl nD)
        have racc4 : RepAll K (Lk W' A) H4 acc vacc := racc3.ext (O := ow A) e4 fun a h => List.mem_append_right _ h
        refine comp_in (W := W') (A := A) S4 hn1 h5 dW hD0 h4D racc4 rv1 wk1 htg1 fun H5 vacc2 e5 h5D r5 S5 => ?_
        refine ⟨wipeE ρc own, acc2, vacc2, h5D, r5, ?_, ((e.trans e3').trans e4').trans e5, ht⟩
        have z := S5.wipe no2
        rw [hw1] at z; exact z
      · cases h5
  · have ei : i = vs.length := by omega
    subst ei
    refine .inl ⟨w1 (Nat.le_refl _), ?_⟩
    have hdrop : xs.drop vs.length = [] := List.drop_eq_nil_of_le (by omega)
    rw [hdrop] at ht
    have ht : Res.ok (acc, ρi) = .ok (ds, ρ2) := ht
    cases ht
    have e0 : Ext (D :: ow A) (upd H1 D (.lst [])) H := e
    have S1' : Sim K W' A (upd H1 D (.lst [])) ρ1 σ := S1.lock hD
    refine q H e1 (S1'.unwipe Si e dO no) (.l hacc racc)
end

/-! ### a locked object -/
section
variable {K : PySem.W.Frag} {W : Wd} {A : Own} {H H2 : Hp} {ρ ρ2 : Env} {σ : St} {i : Nat} {d : Addr} {u u0 : HO}
theorem at2_none {j : Nat} : at2 (A.set i none) j = if j = i then none else at2 A j := by
  by_cases h : i < A.length
  · exact at2_set h
  · rw [List.set_eq_of_length_le (by omega)]
    by_cases e : j = i
    · subst e
      rw [if_pos rfl]
      unfold at2
      rw [List.getElem?_eq_none (by omega)]; rfl
    · rw [if_neg e]
theorem ow_none {a : Addr} (h : a ∈ ow (A.set i none)) : a ∈ ow A := by
  obtain ⟨j, e⟩ := ow_at2 h
  rw [at2_none] at e
  by_cases z : j = i
  · rw [if_pos z] at e; cases e
  · rw [if_neg z] at e; exact at2_ow e
theorem Sim.ext0_wr (S : Sim K W A H ρ σ) (ha : at2 A i = some d) {u1 : HO} (hu : H2 d = some u1) (ht : ¬ isT u1) (e0 : Ext (ow W.P0) W.H0 H2) : Ext (ow W.P0) W.H0 (upd H2 d u) := by
  obtain ⟨s, o, hs, hm, hσ, mo⟩ := S.owned ha
  obtain ⟨v, h1, h2⟩ := S.slots i s hs
  cases s with
  | f g x => cases hm
  | v d => cases hm
  | m q =>
    obtain ⟨b, q1, q2, q3, q4⟩ := h2
    rw [ha] at q1; cases q1
    refine ⟨fun b w hb n => ?_, fun b hb => ?_⟩
    · have ne : b ≠ d := fun y => by subst y; rw [q3] at hb; cases hb
      rw [upd_ne ne]
      exact e0.keep b w hb n
    · by_cases ne : b = d
      · subst ne; exact q3
      · rw [upd_ne ne] at hb; exact e0.dom b hb
  | p q =>
    obtain ⟨b, q1, q2, q3, q4⟩ := h2
    rw [ha] at q1; cases q1
    exact e0.trans (Ext.wr (at2_ow q3) hu ht)
theorem Sim.lend (S : Sim K W A H ρ σ) (ha : at2 A i = some d) (hu : H d = some u0) (ht : ¬ isT u0) : Sim K { W with D := d :: W.D } (A.set i none) (upd H d u) (ρ.set i none) σ := by
  have e : Ext [d] H (upd H d u) := Ext.wr (List.mem_singleton.mpr rfl) hu ht
  have sa : ∀ b, b ∈ [d] → b ∈ Lk W A := fun b z => by rw [List.mem_singleton.mp z]; exact ow_Lk _ (at2_ow ha)
  have hi : i < ρ.length := by
    obtain ⟨s, _, hs, _⟩ := S.owned ha
    exact slot_lt hs
  have sub : ∀ b, b ∈ Lk { W with D := d :: W.D } (A.set i none) → b ∈ Lk W A := fun b q => by
    rcases List.mem_append.mp q with q | q
    · rcases List.mem_cons.mp q with q | q
      · subst q; exact ow_Lk _ (at2_ow ha)
      · exact List.mem_append_left _ q
    · exact ow_Lk _ (ow_none q)
  refine ⟨by simp [S.lenA], by simp [S.lenS], fun j sv h => ?_, fun j h => ?_, fun j k a h1 h2 => ?_, fun j a h q => ?_, fun a q z => ?_, S.ext0_wr ha hu ht S.ext0⟩
  · rw [slot_set hi] at h
    by_cases z : j = i
    · rw [if_pos z] at h; cases h
    · rw [if_neg z] at h
      obtain ⟨w, h1, h2⟩ := S.slots j sv h
      have other : ∀ {b}, at2 A j = some b → ∀ w, H b = some w → upd H d u b = some w := fun {b} q w hw => by
        rw [upd_ne (fun y : b = d => z (S.inj j i d (by rw [← y]; exact q) ha))]; exact hw
      refine ⟨w, h1, ?_⟩
      cases sv with
      | f g x => exact ⟨by rw [at2_none, if_neg z]; exact h2.1, h2.2⟩
      | v x => exact ⟨by rw [at2_none, if_neg z]; exact h2.1, (h2.2.ext e sa).sub sub⟩
      | m o =>
        obtain ⟨b, q1, q2, q3, q4⟩ := h2
        exact ⟨b, by rw [at2_none, if_neg z]; exact q1, q2, q3, (q4.ext e sa (other q1)).sub sub⟩
      | p o =>
        obtain ⟨b, q1, q2, q3, q4⟩ := h2
        exact ⟨b, by rw [at2_none, if_neg z]; exact q1, q2, q3, (q4.ext e sa (other q1)).sub sub⟩
  · rw [slot_set hi] at h
    rw [at2_none]
    by_cases z : j = i
    · rw [if_pos z]
    · rw [if_neg z] at h ⊢; exact S.free j h
  · rw [at2_none] at h1 h2
    by_cases z : j = i
    · rw [if_pos z] at h1; cases h1
    · by_cases y : k = i
      · rw [if_pos y] at h2; cases h2
      · rw [if_neg z] at h1; rw [if_neg y] at h2; exact S.inj j k a h1 h2
  · rw [at2_none] at h
    by_cases z : j = i
    · rw [if_pos z] at h; cases h
    · rw [if_neg z] at h
      rcases List.mem_cons.mp q with q | q
      · subst q; exact z (S.inj j i a h ha)
      · exact S.dsj j a h q
  · by_cases y : a = d
    · subst y; rw [upd_same] at z; cases z
    · rw [upd_ne y] at z
      rcases List.mem_cons.mp q with q | q
      · exact y q
      · exact S.lck a q z
theorem Sim.unlend {D1 D2 : List Addr} {u1 : HO} (S : Sim K W A H ρ σ) (ha : at2 A i = some d) (hu : H d = some u0) (ht : ¬ isT u0) (S2 : Sim K { W with D := D2 } (A.set i none) H2 ρ2 σ) (h2 : H2 d = some u1) (t2 : ¬ isT u1)
    (s1 : ∀ a, a ∈ D1 → a ∈ D2) (sd : d ∈ D2) (nd : d ∉ D1) (e : Ext (ow A) H (upd H2 d u0)) (hD : ∀ a, a ∈ D1 → a ∈ W.D ∨ H a = none) : Sim K { W with D := D1 } A (upd H2 d u0) (ρ2.set i (ρ[i]?).join) σ := by
  have e2 : Ext [d] H2 (upd H2 d u0) := Ext.wr (List.mem_singleton.mpr rfl) h2 t2
  have sa : ∀ b, b ∈ [d] → b ∈ Lk { W with D := D2 } (A.set i none) := fun b z => by rw [List.mem_singleton.mp z]; exact List.mem_append_left _ sd
  have hl : ρ2.length = ρ.length := by rw [← S2.lenS, S.lenS]
  have hi : i < ρ2.length := by
    obtain ⟨s, _, hs, _⟩ := S.owned ha
    rw [hl]; exact slot_lt hs
  have sub : ∀ b, b ∈ Lk { W with D := D1 } A → b ∈ Lk { W with D := D2 } (A.set i none) := fun b q => by
    rcases List.mem_append.mp q with q | q
    · exact List.mem_append_left _ (s1 b q)
    · obtain ⟨j, ej⟩ := ow_at2 q
      by_cases z : j = i
      · subst z; rw [ha] at ej; cases ej; exact List.mem_append_left _ sd
      · exact List.mem_append_right _ (at2_ow (i := j) (by rw [at2_none, if_neg z]; exact ej))
  have add : ∀ a, a ∈ Lk { W with D := D1 } A → a ∈ Lk W A ∨ H a = none := fun a q => by
    rcases List.mem_append.mp q with q | q
    · rcases hD a q with q | q
      · exact .inl (List.mem_append_left _ q)
      · exact .inr q
    · exact .inl (List.mem_append_right _ q)
  have si : slot ρ i = (ρ[i]?).join := rfl
  refine ⟨by rw [List.length_set, hl]; exact S.lenA, by rw [List.length_set, hl]; exact S.lenS, fun j sv h => ?_, fun j h => ?_, S.inj, fun j a h q => ?_, fun a q z => ?_, S.ext0_wr ha h2 t2 S2.ext0⟩
  · rw [slot_set hi] at h
    by_cases z : j = i
    · subst z
      rw [if_pos rfl] at h
      obtain ⟨w, h1, h3⟩ := S.slots j sv h
      have kp : ∀ w, H d = some w → upd H2 d u0 d = some w := fun w hw => by rw [hu] at hw; cases hw; exact upd_same
      refine ⟨w, h1, ?_⟩
      cases sv with
      | f g x => rw [h3.1] at ha; cases ha
      | v x => rw [h3.1] at ha; cases ha
      | m o =>
        obtain ⟨b, q1, q2, q3, q4⟩ := h3
        rw [ha] at q1; cases q1
        exact ⟨d, ha, q2, q3, (q4.add add).ext e (fun b q => List.mem_append_right _ q) kp⟩
      | p o =>
        obtain ⟨b, q1, q2, q3, q4⟩ := h3
        rw [ha] at q1; cases q1
        exact ⟨d, ha, q2, q3, (q4.add add).ext e (fun b q => List.mem_append_right _ q) kp⟩
    · rw [if_neg z] at h
      obtain ⟨w, h1, h3⟩ := S2.slots j sv h
      refine ⟨w, h1, ?_⟩
      have other : ∀ {b}, at2 (A.set i none) j = some b → ∀ w, H2 b = some w → upd H2 d u0 b = some w := fun {b} q w hw => by
        rw [upd_ne (fun y : b = d => S2.dsj j b q (by rw [y]; exact sd))]; exact hw
      have aj : at2 (A.set i none) j = at2 A j := by rw [at2_none, if_neg z]
      cases sv with
      | f g x => exact ⟨by rw [← aj]; exact h3.1, h3.2⟩
      | v x => exact ⟨by rw [← aj]; exact h3.1, (h3.2.ext e2 sa).sub sub⟩
      | m o =>
        obtain ⟨b, q1, q2, q3, q4⟩ := h3
        exact ⟨b, by rw [← aj]; exact q1, q2, q3, (q4.ext e2 sa (other q1)).sub sub⟩
      | p o =>
        obtain ⟨b, q1, q2, q3, q4⟩ := h3
        exact ⟨b, by rw [← aj]; exact q1, q2, q3, (q4.ext e2 sa (other q1)).sub sub⟩
  · rw [slot_set hi] at h
    by_cases z : j = i
    · subst z
      rw [if_pos rfl] at h
      exact S.free j h
    · rw [if_neg z] at h
      have q := S2.free j h
      rw [at2_none, if_neg z] at q
      exact q
  · by_cases z : j = i
    · subst z; rw [ha] at h; cases h; exact nd q
    · exact S2.dsj j a (by rw [at2_none, if_neg z]; exact h) (s1 a q)
  · by_cases y : a = d
    · subst y; exact nd q
    · rw [upd_ne y] at z
      exact S2.lck a (s1 a q) z
end

/-! ### the expression -/
section
variable {X : Cx} {F : Fn} {G : Gd}
theorem Ctx.blk (c : Ctx X F G) {s : Shared} {H : Hp} {scope : Scope} {cenv : PySem.Env} {fp : List Addr} : Ctx (X.blk s H scope cenv fp) F G :=
  ⟨c.calm, c.nd, c.units, c.guards, c.free, c.con, fun x f h => ⟨(c.fns x f h).adr, (c.fns x f h).ex⟩⟩
theorem ownOk_of {N : List Str} {sc scope : Scope} {is : List Nat} (h : ownOk N sc scope is = true) : ∃ l : List (Str × Nat), BlkOk N sc scope l ∧ l.map (·.2) = is := by
  unfold ownOk at h
  rw [Bool.and_eq_true] at h
  exact ⟨_, blkOk_by h.1, of_decide_eq_true h.2⟩
theorem mayPut_blk {N : List Str} {sc scope : Scope} {i : Nat} (hs : X.env.scope = sc) (h : rawB N scope i = true) {s : Shared} {H : Hp} {C : Addr} {cl : List (Str × Addr)} {fp : List Addr} (x : Str) (hx : N[i]? = some x) : MayPut (X.blk s H scope (compEnvC scope cl C X.env) fp) x := by
  unfold rawB at h
  rw [hx] at h
  rw [Bool.or_eq_true, decide_eq_true_eq, decide_eq_true_eq] at h
  rcases h with h | h
  · right
    exact lookup_relS_keep (by decide) h
  · left
    show (scope.names.lookup x == some .cell) = true
    rw [h] <;> rfl
theorem tgRaw_of {N : List Str} {scope : Scope} {tg : Tg} (h : tgRaw N scope tg = true) : ∀ j ∈ tgs tg, rawB N scope j = true := by
  cases tg with
  | n i => intro j hj; rw [List.mem_singleton.mp hj]; exact h
  | t is => exact fun j hj => List.all_eq_true.mp h j hj
theorem tgIn_of {ow : List Nat} {tg : Tg} (h : tgIn ow tg = true) : ∀ j ∈ tgs tg, j ∈ ow := by
  cases tg with
  | n i => intro j hj; rw [List.mem_singleton.mp hj]; exact of_decide_eq_true h
  | t is => exact fun j hj => of_decide_eq_true (List.all_eq_true.mp h j hj)
theorem fold_of {e : Expr} (h : setB e = false) (env : PySem.Env) (x : Value) : foldedSetIterable e env x = pure x := by
  cases e <;> first | rfl | cases h
/-- what the block's parts are asked -/
def Blk (X : Cx) (F : Fn) (G : Gd) (sc : Scope) (P : Cx → Prop) : Prop := ∀ X' : Cx, Ctx X' F G → X'.N = X.N → X'.K = X.K → X'.env.scope = sc → P X'
theorem Blk.at {sc scope : Scope} {P : Cx → Prop} (hs : X.env.scope = sc) (c : Ctx X F G) (b : Blk X F G (relS scope sc) P) (s : Shared) (H : Hp) (C : Addr) (cl : List (Str × Addr)) (fp : List Addr) : P (X.blk s H scope (compEnvC scope cl C X.env) fp) :=
  b _ c.blk rfl rfl (by subst hs; rfl)
theorem comp_imp {own : List Nat} {elt : E} {tg : Tg} {it : It} {co : Oe} (hin : tgIn own tg = true) {σ : St} {H : Hp} {Q : VK} (h : tV X.K (ev F (.comp own elt tg it co)) σ H Q) :
    tLc (tI X.K (evI F it)) (tG X.K tg) (tB2 X.K (evC F co)) (tV X.K (ev F elt)) own σ H Q := by
  obtain ⟨W, A, ρ, rr, ρ', S, hev, q⟩ := h
  unfold ev at hev
  obtain ⟨⟨xs, ρ1⟩, h1, hev⟩ := bnd_inv hev
  refine ⟨W, A, ρ, xs, ρ1, S, h1, fun J vs H1 e1 S1 rv wk D hD => ?_⟩
  have hev : (if noMo ρ1 own = true then (compR own (bindTg tg) (evC F co) (ev F elt) xs (wipeE ρ1 own) []).bnd fun (ds, ρ2) => Res.ok (RV.m (.l ds), unwipe ρ1 ρ2 own) else .bad) = .ok (rr, ρ') := hev
  split at hev
  · rename_i hn
    obtain ⟨⟨ds, ρ2⟩, h2, hev⟩ := bnd_inv hev
    cases hev
    exact comp_rule S1 hn h2 rv (wk.mono ow_Lk) (tgIn_of hin) hD fun H' e2 S2 mo => q _ _ (e1.trans e2) ⟨D, rfl, e1.dom _ hD, S2, mo⟩
  · cases hev
/-- the block's parts, in its context -/
theorem blk_tg {N : List Str} {sc scope : Scope} {tg : Tg} {t : Expr} (c : Ctx X F G) (hX : X.N = N) (hs : X.env.scope = sc) (hraw : tgRaw N scope tg = true) (hck : ckTg N (relS scope sc) tg t = true)
    (s : Shared) (H : Hp) (C : Addr) (cl : List (Str × Addr)) (fp : List Addr) : PG (X.blk s H scope (compEnvC scope cl C X.env) fp) t (tG X.K tg) :=
  g_tg (X := X.blk s H scope (compEnvC scope cl C X.env) fp) (N := N) (sc := relS scope sc) hX (by subst hs; rfl) c.nd c.calm hck fun i hi x hx => mayPut_blk hs (tgRaw_of hraw i hi) x hx
theorem e_comp {N : List Str} {sc scope : Scope} {own : List Nat} {elt : E} {tg : Tg} {it : It} {co : Oe} {x t iter : Expr} {ifs : List Expr} {pos : Pos} (c : Ctx X F G) (hX : X.N = N) (hs : X.env.scope = sc)
    (hown : ownOk N sc scope own = true) (hin : tgIn own tg = true) (hraw : tgRaw N scope tg = true) (hset : setB iter = false) (hck : ckTg N (relS scope sc) tg t = true)
    (hi : PI X t iter (tI X.K (evI F it))) (hc : Blk X F G (relS scope sc) fun X' => PTs X' ifs (tB2 X'.K (evC F co))) (he : Blk X F G (relS scope sc) fun X' => PE X' x (tV X'.K (ev F elt))) :
    PE X (.ListComp x [⟨t, iter, ifs, 0⟩] scope pos) (tV X.K (ev F (.comp own elt tg it co))) := by
  obtain ⟨l, ok, hl⟩ := ownOk_of hown
  refine PE.imp (pe_lc (tt := tB2 X.K (evC F co)) (te := tV X.K (ev F elt)) (g := tG X.K tg) c.calm c.nd hi (by rw [hX, hs]; exact ok) (blk_tg c hX hs hraw hck) (fun s H C cl fp => hc.at hs c s H C cl fp) (fun s H C cl fp => he.at hs c s H C cl fp) (fold_of hset X.env)) fun σ H Q h => ?_
  rw [hl]
  exact comp_imp hin h
theorem s_comp {N : List Str} {sc scope : Scope} {own : List Nat} {elt : E} {tg : Tg} {it : It} {co : Oe} {x t iter : Expr} {ifs : List Expr} {pos spos py : Pos} {i : Nat} {y : Str} (c : Ctx X F G) (hX : X.N = N) (hs : X.env.scope = sc)
    (hown : ownOk N sc scope own = true) (hin : tgIn own tg = true) (hraw : tgRaw N scope tg = true) (hset : setB iter = false) (hck : ckTg N (relS scope sc) tg t = true)
    (hi : PI X t iter (tI X.K (evI F it))) (hc : Blk X F G (relS scope sc) fun X' => PTs X' ifs (tB2 X'.K (evC F co))) (he : Blk X F G (relS scope sc) fun X' => PE X' x (tV X'.K (ev F elt)))
    (hy : N[i]? = some y) (hyl : sc.names.lookup y = some .local) (hsw : swapsWith (.ListComp x [⟨t, iter, ifs, 0⟩] scope pos) (some (.Name y py)) spos.line X.env = pure true) :
    PS X (.Assign [.Name y py] (.ListComp x [⟨t, iter, ifs, 0⟩] scope pos) spos) (tAsg (tV X.K (ev F (.comp own elt tg it co))) (gName i)) := by
  obtain ⟨l, ok, hl⟩ := ownOk_of hown
  have z := ps_setLc (tt := tB2 X.K (evC F co)) (te := tV X.K (ev F elt)) (g := tG X.K tg) (i := i) c.calm c.nd (by rw [hX]; exact hy) (by rw [hs]; exact hyl) hsw hi (by rw [hX, hs]; exact ok) (blk_tg c hX hs hraw hck) (fun s H C cl fp => hc.at hs c s H C cl fp) (fun s H C cl fp => he.at hs c s H C cl fp) (fold_of hset X.env)
  rw [hl] at z
  exact ⟨fun pins s σ H D I h => z.run pins s σ H D I (comp_imp hin h)⟩
theorem comp2_imp {own own1 : List Nat} {elt : E} {tg tg1 : Tg} {it it1 : It} {co co1 : Oe} (hin : tgIn own tg = true) (hin1 : tgIn own1 tg1 = true) (ho : ∀ j ∈ own1, j ∈ own) {σ : St} {H : Hp} {Q : VK} (h : tV X.K (ev F (.comp2 own own1 elt tg it co tg1 it1 co1)) σ H Q) :
    tLc2 (tI X.K (evI F it)) (tG X.K tg) (tB2 X.K (evC F co)) (tI X.K (evI F it1)) (tG X.K tg1) (tB2 X.K (evC F co1)) (tV X.K (ev F elt)) own own1 σ H Q := by
  obtain ⟨W, A, ρ, rr, ρ', S, hev, q⟩ := h
  unfold ev at hev
  obtain ⟨⟨xs, ρ1⟩, h1, hev⟩ := bnd_inv hev
  refine ⟨W, A, ρ, xs, ρ1, S, h1, fun J vs H1 e1 S1 rv wk D hD => ?_⟩
  have hev : (if noMo ρ1 own = true then (compQ own (bindTg tg) (evC F co) (fun ρ3 acc => (evI F it1 ρ3).bnd fun (ys, ρ4) => if noMo ρ4 own1 = true then compR own1 (bindTg tg1) (evC F co1) (ev F elt) ys (wipeE ρ4 own1) acc else .bad) xs (wipeE ρ1 own) []).bnd fun (ds, ρ2) => Res.ok (RV.m (.l ds), unwipe ρ1 ρ2 own) else .bad) = .ok (rr, ρ') := hev
  split at hev
  · rename_i hn
    obtain ⟨⟨ds, ρ2⟩, h2, hev⟩ := bnd_inv hev
    cases hev
    exact comp_rule2 S1 hn h2 rv (wk.mono ow_Lk) (tgIn_of hin) (tgIn_of hin1) ho hD fun H' e2 S2 mo => q _ _ (e1.trans e2) ⟨D, rfl, e1.dom _ hD, S2, mo⟩
  · cases hev
theorem e_comp2 {N : List Str} {sc scope : Scope} {own own1 : List Nat} {elt : E} {tg tg1 : Tg} {it it1 : It} {co co1 : Oe} {x t t1 iter iter1 : Expr} {ifs ifs1 : List Expr} {pos : Pos} (c : Ctx X F G) (hX : X.N = N) (hs : X.env.scope = sc)
    (hown : ownOk N sc scope own = true) (hin : tgIn own tg = true) (hin1 : tgIn own1 tg1 = true) (ho : ∀ j ∈ own1, j ∈ own) (hraw : tgRaw N scope tg = true) (hraw1 : tgRaw N scope tg1 = true) (hset : setB iter = false) (hset1 : setB iter1 = false) (hck : ckTg N (relS scope sc) tg t = true) (hck1 : ckTg N (relS scope sc) tg1 t1 = true)
    (hi : PI X t iter (tI X.K (evI F it))) (hi1 : Blk X F G (relS scope sc) fun X' => PI X' t1 iter1 (tI X'.K (evI F it1))) (hc : Blk X F G (relS scope sc) fun X' => PTs X' ifs (tB2 X'.K (evC F co))) (hc1 : Blk X F G (relS scope sc) fun X' => PTs X' ifs1 (tB2 X'.K (evC F co1))) (he : Blk X F G (relS scope sc) fun X' => PE X' x (tV X'.K (ev F elt))) :
    PE X (.ListComp x [⟨t, iter, ifs, 0⟩, ⟨t1, iter1, ifs1, 0⟩] scope pos) (tV X.K (ev F (.comp2 own own1 elt tg it co tg1 it1 co1))) := by
  obtain ⟨l, ok, hl⟩ := ownOk_of hown
  refine PE.imp (pe_lc2 (vs1 := own1) (tt := tB2 X.K (evC F co)) (te := tV X.K (ev F elt)) (g := tG X.K tg) (wi1 := tI X.K (evI F it1)) (g1 := tG X.K tg1) (tt1 := tB2 X.K (evC F co1)) c.calm c.nd hi (by rw [hX, hs]; exact ok) (by rw [hl]; exact ho) (blk_tg c hX hs hraw hck) (fun s H C cl fp => hc.at hs c s H C cl fp) (fun s H C cl fp => hi1.at hs c s H C cl fp) (blk_tg c hX hs hraw1 hck1) (fun s H C cl fp => hc1.at hs c s H C cl fp) (fun s H C cl fp => he.at hs c s H C cl fp) (fold_of hset X.env) (fun env => fold_of hset1 env)) fun σ H Q h => ?_
  rw [hl]
  exact comp2_imp hin hin1 ho h
theorem s_comp2 {N : List Str} {sc scope : Scope} {own own1 : List Nat} {elt : E} {tg tg1 : Tg} {it it1 : It} {co co1 : Oe} {x t t1 iter iter1 : Expr} {ifs ifs1 : List Expr} {pos spos py : Pos} {i : Nat} {y : Str} (c : Ctx X F G) (hX : X.N = N) (hs : X.env.scope = sc)
    (hown : ownOk N sc scope own = true) (hin : tgIn own tg = true) (hin1 : tgIn own1 tg1 = true) (ho : ∀ j ∈ own1, j ∈ own) (hraw : tgRaw N scope tg = true) (hraw1 : tgRaw N scope tg1 = true) (hset : setB iter = false) (hset1 : setB iter1 = false) (hck : ckTg N (relS scope sc) tg t = true) (hck1 : ckTg N (relS scope sc) tg1 t1 = true)
    (hi : PI X t iter (tI X.K (evI F it))) (hi1 : Blk X F G (relS scope sc) fun X' => PI X' t1 iter1 (tI X'.K (evI F it1))) (hc : Blk X F G (relS scope sc) fun X' => PTs X' ifs (tB2 X'.K (evC F co))) (hc1 : Blk X F G (relS scope sc) fun X' => PTs X' ifs1 (tB2 X'.K (evC F co1))) (he : Blk X F G (relS scope sc) fun X' => PE X' x (tV X'.K (ev F elt)))
    (hy : N[i]? = some y) (hyl : sc.names.lookup y = some .local) (hsw : swapsWith (.ListComp x [⟨t, iter, ifs, 0⟩, ⟨t1, iter1, ifs1, 0⟩] scope pos) (some (.Name y py)) spos.line X.env = pure true) :
    PS X (.Assign [.Name y py] (.ListComp x [⟨t, iter, ifs, 0⟩, ⟨t1, iter1, ifs1, 0⟩] scope pos) spos) (tAsg (tV X.K (ev F (.comp2 own own1 elt tg it co tg1 it1 co1))) (gName i)) := by
  obtain ⟨l, ok, hl⟩ := ownOk_of hown
  have z := ps_setLc2 (vs1 := own1) (tt := tB2 X.K (evC F co)) (te := tV X.K (ev F elt)) (g := tG X.K tg) (wi1 := tI X.K (evI F it1)) (g1 := tG X.K tg1) (tt1 := tB2 X.K (evC F co1)) (i := i) c.calm c.nd (by rw [hX]; exact hy) (by rw [hs]; exact hyl) hsw hi (by rw [hX, hs]; exact ok) (by rw [hl]; exact ho) (blk_tg c hX hs hraw hck) (fun s H C cl fp => hc.at hs c s H C cl fp) (fun s H C cl fp => hi1.at hs c s H C cl fp) (blk_tg c hX hs hraw1 hck1) (fun s H C cl fp => hc1.at hs c s H C cl fp) (fun s H C cl fp => he.at hs c s H C cl fp) (fold_of hset X.env) (fun env => fold_of hset1 env)
  rw [hl] at z
  exact ⟨fun pins s σ H D I h => z.run pins s σ H D I (comp2_imp hin hin1 ho h)⟩
theorem wk_keys {O : List Addr} {H1 : Hp} {d : Addr} {od : Obj} {kvs : List (Key × V)} (h : H1 d = some (.frz od (.dK kvs))) (n : d ∉ O) : Wk O H1 (Itk d od kvs) (kvs.map fun p => kV p.1) := by
  refine ⟨fun i H e => ?_⟩
  have h' : H d = some (.frz od (.dK kvs)) := e.keep _ _ h (.inl n)
  refine ⟨fun hi => ⟨h', by simpa using hi⟩, fun hi => ⟨h', by simpa using hi⟩, fun x H' hi hy => ⟨hy.1, ?_⟩⟩
  obtain ⟨k, v, hk, hx⟩ := hy.2
  rw [List.getElem?_map, hk, hx]; rfl
theorem rep_keys {K : PySem.W.Frag} {L : List Addr} {H : Hp} {R : Key × PyData → Key × V → Prop} (hR : ∀ p q, R p q → p.1 = q.1) {ks : List (Key × PyData)} {kvs : List (Key × V)} (r : Paired R ks kvs) : RepAll K L H (ks.map fun p => kD p.1) (kvs.map fun p => kV p.1) := by
  induction r with
  | nil => exact .nil
  | @cons p q ps qs h _ ih =>
    refine .cons ?_ ih
    show Rep K L H (kD p.1) (kV q.1)
    rw [hR _ _ h]
    cases q.1 with
    | inl i => exact .int i
    | inr x => exact .str x
theorem compD_imp {own : List Nat} {elt : E} {tg : Tg} {i : Nat} {co : Oe} (hin : tgIn own tg = true) {σ : St} {H : Hp} {Q : VK} (h : tV X.K (ev F (.compD own elt tg i co)) σ H Q) :
    tLockE (tLc (iKeys (tVar i)) (tG X.K tg) (tB2 X.K (evC F co)) (tV X.K (ev F elt)) own) σ H Q := by
  obtain ⟨W, A, ρ, rr, ρ', S, hev, q⟩ := h
  unfold ev at hev
  obtain ⟨o, ho, hev⟩ := bnd_inv hev
  obtain ⟨d, hA, hσ, mo⟩ := S.own_at (ofO_inv ho)
  cases mo with
  | l h r => cases hev
  | d h r =>
    rename_i kvs ks
    have hev : (if (noMo ρ own && decide (i ∉ own)) = true then (compR own (bindTg tg) (evC F co) (ev F elt) (ks.map fun p => kD p.1) (wipeE (ρ.set i none) own) []).bnd fun (ds, ρ2) => Res.ok (RV.m (.l ds), (unwipe ρ ρ2 own).set i (ρ[i]?).join) else .bad) = .ok (rr, ρ') := hev
    split at hev
    · rename_i hn
      rw [Bool.and_eq_true] at hn
      have hni := of_decide_eq_true hn.2
      obtain ⟨⟨ds, ρ2⟩, h2, hev⟩ := bnd_inv hev
      cases hev
      have dA : d ∈ ow A := at2_ow hA
      have nt : ¬ isT (HO.dK kvs) := fun z => z
      refine ⟨d, .dK kvs, h, trivial, fun od => ?_⟩
      refine ⟨_, hσ, d, od, rfl, .inl ⟨kvs, upd_same, fun D hD => ?_⟩⟩
      have S1 : Sim X.K { W with D := d :: W.D } (A.set i none) (upd H d (.frz od (.dK kvs))) (ρ.set i none) σ := S.lend hA h nt
      have nO : d ∉ ow (A.set i none) := fun z => by
        obtain ⟨j, e⟩ := ow_at2 z
        exact S1.dsj j d e List.mem_cons_self
      have hn1 : noMo (ρ.set i none) own = true := by
        refine List.all_eq_true.mpr fun j hj => ?_
        have z := List.all_eq_true.mp hn.1 j hj
        rw [Bool.and_eq_true] at z ⊢
        have ne : j ≠ i := fun y => hni (y ▸ hj)
        refine ⟨?_, by rw [List.length_set]; exact z.2⟩
        have : Rf.own (ρ.set i none) j = Rf.own ρ j := by
          unfold Rf.own slot
          rw [List.getElem?_set_ne (Ne.symm ne)]
        rw [this]; exact z.1
      have hiρ : i < ρ.length := by
        obtain ⟨s, _, z, _⟩ := S.owned hA
        exact slot_lt z
      have un : ∀ ρ2 : Env, (unwipe (ρ.set i none) ρ2 own).set i (ρ[i]?).join = (unwipe ρ ρ2 own).set i (ρ[i]?).join := fun ρ2 => by
        have gen : ∀ is : List Nat, i ∉ is → unwipe (ρ.set i none) ρ2 is = unwipe ρ ρ2 is := fun is => by
          induction is with
          | nil => intro _; rfl
          | cons k is ih =>
            intro hk
            rw [List.mem_cons, not_or] at hk
            unfold unwipe
            rw [ih hk.2, List.getElem?_set_ne hk.1]
        rw [gen own hni]
      refine comp_rule S1 hn1 h2 (rep_keys (fun p q z => z.1) r) (wk_keys upd_same nO) (tgIn_of hin) hD fun H' e2 S2 mo => ?_
      have hDd : D ≠ d := fun y => by subst y; rw [upd_same] at hD; cases hD
      have hDH : H D = none := by rw [upd_ne hDd] at hD; exact hD
      have h2d : H' d = some (.frz od (.dK kvs)) := e2.keep _ _ upd_same (.inl nO)
      have t2 : ¬ isT (HO.frz od (.dK kvs)) := fun z => z
      have eF : Ext (ow A) H (upd H' d (.dK kvs)) := by
        refine ⟨fun a o ho n => ?_, fun a ha => ?_⟩
        · by_cases y : a = d
          · subst y
            rw [h] at ho; cases ho
            exact upd_same
          · rw [upd_ne y]
            refine e2.keep a o (by rw [upd_ne y]; exact ho) (n.imp (fun n z => n (ow_none z)) id)
        · by_cases y : a = d
          · subst y; rw [upd_same] at ha; cases ha
          · rw [upd_ne y] at ha
            have z := e2.dom a ha
            rw [upd_ne y] at z; exact z
      refine ⟨h2d, q _ _ eF ⟨D, rfl, hDH, ?_, ?_⟩⟩
      · rw [← un]
        refine S.unlend (D1 := D :: W.D) (D2 := D :: d :: W.D) hA h nt S2 h2d t2 (fun a z => ?_) (List.mem_cons_of_mem _ List.mem_cons_self) (fun z => ?_) eF (fun a z => ?_)
        · rcases List.mem_cons.mp z with z | z
          · subst z; exact List.mem_cons_self
          · exact List.mem_cons_of_mem _ (List.mem_cons_of_mem _ z)
        · rcases List.mem_cons.mp z with z | z
          · exact hDd z.symm
          · exact S.dsj i d hA z
        · rcases List.mem_cons.mp z with z | z
          · subst z; exact .inr hDH
          · exact .inl z
      · have e3 : Ext [d] H' (upd H' d (.dK kvs)) := Ext.wr (List.mem_singleton.mpr rfl) h2d t2
        refine (mo.ext e3 (fun b z => by rw [List.mem_singleton.mp z]; exact List.mem_append_left _ (List.mem_cons_of_mem _ List.mem_cons_self)) (fun u hu => by rw [upd_ne hDd]; exact hu)).sub fun b z => ?_
        rcases List.mem_append.mp z with z | z
        · rcases List.mem_cons.mp z with z | z
          · subst z; exact List.mem_append_left _ List.mem_cons_self
          · exact List.mem_append_left _ (List.mem_cons_of_mem _ (List.mem_cons_of_mem _ z))
        · obtain ⟨j, e⟩ := ow_at2 z
          by_cases y : j = i
          · subst y; rw [hA] at e; cases e; exact List.mem_append_left _ (List.mem_cons_of_mem _ List.mem_cons_self)
          · exact List.mem_append_right _ (at2_ow (i := j) (by rw [at2_none, if_neg y]; exact e))
    · cases hev
theorem e_compD {N : List Str} {sc scope : Scope} {own : List Nat} {elt : E} {tg : Tg} {i : Nat} {co : Oe} {x t iter : Expr} {ifs : List Expr} {pos : Pos} (c : Ctx X F G) (hX : X.N = N) (hs : X.env.scope = sc)
    (hown : ownOk N sc scope own = true) (hin : tgIn own tg = true) (hraw : tgRaw N scope tg = true) (hset : setB iter = false) (hck : ckTg N (relS scope sc) tg t = true)
    (hi : PE X iter (tVar i)) (hc : Blk X F G (relS scope sc) fun X' => PTs X' ifs (tB2 X'.K (evC F co))) (he : Blk X F G (relS scope sc) fun X' => PE X' x (tV X'.K (ev F elt))) :
    PE X (.ListComp x [⟨t, iter, ifs, 0⟩] scope pos) (tV X.K (ev F (.compD own elt tg i co))) := by
  obtain ⟨l, ok, hl⟩ := ownOk_of hown
  refine PE.imp (pe_lock (pe_lc (tt := tB2 X.K (evC F co)) (te := tV X.K (ev F elt)) (g := tG X.K tg) c.calm c.nd (pi_keys hi) (by rw [hX, hs]; exact ok) (blk_tg c hX hs hraw hck) (fun s H C cl fp => hc.at hs c s H C cl fp) (fun s H C cl fp => he.at hs c s H C cl fp) (fold_of hset X.env))) fun σ H Q h => ?_
  rw [hl]
  exact compD_imp hin h
theorem s_compD {N : List Str} {sc scope : Scope} {own : List Nat} {elt : E} {tg : Tg} {i : Nat} {co : Oe} {x t iter : Expr} {ifs : List Expr} {pos spos py : Pos} {k : Nat} {y : Str} (c : Ctx X F G) (hX : X.N = N) (hs : X.env.scope = sc)
    (hown : ownOk N sc scope own = true) (hin : tgIn own tg = true) (hraw : tgRaw N scope tg = true) (hset : setB iter = false) (hck : ckTg N (relS scope sc) tg t = true)
    (hi : PE X iter (tVar i)) (hc : Blk X F G (relS scope sc) fun X' => PTs X' ifs (tB2 X'.K (evC F co))) (he : Blk X F G (relS scope sc) fun X' => PE X' x (tV X'.K (ev F elt)))
    (hy : N[k]? = some y) (hyl : sc.names.lookup y = some .local) (hsw : swapsWith (.ListComp x [⟨t, iter, ifs, 0⟩] scope pos) (some (.Name y py)) spos.line X.env = pure true) :
    PS X (.Assign [.Name y py] (.ListComp x [⟨t, iter, ifs, 0⟩] scope pos) spos) (tAsg (tV X.K (ev F (.compD own elt tg i co))) (gName k)) := by
  obtain ⟨l, ok, hl⟩ := ownOk_of hown
  have z := ps_lock (ps_setLc (tt := tB2 X.K (evC F co)) (te := tV X.K (ev F elt)) (g := tG X.K tg) (i := k) c.calm c.nd (by rw [hX]; exact hy) (by rw [hs]; exact hyl) hsw (pi_keys hi) (by rw [hX, hs]; exact ok) (blk_tg c hX hs hraw hck) (fun s H C cl fp => hc.at hs c s H C cl fp) (fun s H C cl fp => he.at hs c s H C cl fp) (fold_of hset X.env))
  rw [hl] at z
  exact ⟨fun pins s σ H D I h => z.run pins s σ H D I (compD_imp hin h)⟩
end
end Rf

set_option Elab.async false
set_option linter.all false
set_option maxRecDepth 100000
set_option maxHeartbeats 4000000
/-! RfT: tuple(reversed(a tuple)). -/
namespace RfT
open PySem PySem.Spec PyProof.Rows RT L2

theorem nolen_rt : typeLookup (.type "reversed") "__len__" = pure none := by rw [typeLookup_type, builtinLookup_eq_fast]; kernel_rfl
theorem slot_rt_hint : Slot "reversed" "__length_hint__" "reversed.__length_hint__" :=
  .of (owner := "reversed") (n := "__length_hint__") (by rw [typeLookup_type, builtinLookup_eq_fast]; kernel_rfl) (by decide +kernel) (by decide +kernel) (by decide +kernel)
    (by first | exact .inl (by decide +kernel) | exact .inr (by decide +kernel)) (by rw [isSubtype_type]; kernel_rfl)
theorem hint_rt : typeLookup (.type "reversed") "__length_hint__" = pure (some (.builtin "reversed.__length_hint__")) := by rw [typeLookup_type, builtinLookup_eq_fast]; kernel_rfl
theorem entry_rt_hint : entryFor table "reversed.__length_hint__" = some Builtin.«reversed.__length_hint__» := entryFor_of_tree (by kernel_rfl)
theorem args_rt_hint (a : Value) : argsOk "reversed.__length_hint__" ⟨[a], []⟩ := by
  unfold argsOk; rw [signature?_of (id := "reversed.__length_hint__") (n := ['_', '_', 't', 'n', 'i', 'h', '_', 'h', 't', 'g', 'n', 'e', 'l', '_', '_']) (o := ['d', 'e', 's', 'r', 'e', 'v', 'e', 'r']) (by kernel_rfl) owner_rt]; kernel_rfl
theorem type_hint : typeOf (.builtin "reversed.__length_hint__") = pure (.type "method_descriptor") := by kernel_rfl
section
variable {prog : Program} {w : World} {A : Around} {E : Value → Shared → Prop} {s : Shared}
theorem call_hint {it t : Addr} {items : Array Value} {Q : Value → Shared → Prop} (hit : IsRt s.heap it t ((items.size : Int) - 1)) (ht : IsTup s.heap t items) (hn : items.size ≤ sizeLine)
    (hQ : ∀ tk tv, Q (.int items.size tv) { s with toks := tk }) : wpAny (model prog w) A (call (.builtin "reversed.__length_hint__") [.ref it]) Q E s := by
  obtain ⟨o, ho, hc, hd⟩ := id hit
  have hl := line63
  refine wpAny_call_entry slot_rt_hint hit.typeIs entry_rt_hint ?_ (args_rt_hint _)
  unfold Builtin.«reversed.__length_hint__»
  refine wpAny_bind (wpAny_of_eq (a := Value.ref it) rfl ?_)
  refine wpAny_bind (wpAny_field ho hd (x := .ref t) rfl ?_)
  try dsimp only
  rw [if_neg (show ¬ (Value.ref t == Value.none) = true from Bool.false_ne_true)]
  refine wpAny_bind (len_tuple ht (by omega) ?_)
  refine wpAny_bind (wpAny_of_eq (a := some ((items.size : Nat) : Int)) rfl ?_)
  try dsimp only
  refine wpAny_bind (wpAny_field (s := { s with toks := s.toks + 1 + 1 }) ho hd (x := rawInt ((items.size : Int) - 1)) rfl ?_)
  show wpAny _ _ (if ((items.size : Nat) : Int) < (items.size : Int) - 1 + 1 then _ else _) _ _ _
  rw [if_neg (by omega)]
  refine wpAny_bind (wpAny_mkInt (wpAny_pure ⟨_, rfl, ?_⟩))
  have e : (items.size : Int) - 1 + 1 = items.size := by omega
  rw [e]
  exact hQ _ _
theorem hint_ok {it t : Addr} {items : Array Value} {Q : Bool → Shared → Prop} (hit : IsRt s.heap it t ((items.size : Int) - 1)) (ht : IsTup s.heap t items) (hn : items.size ≤ sizeLine)
    (hQ : ∀ tk b, Q b { s with toks := tk }) : wpAny (model prog w) A (Builtin.List.listLengthHint (.ref it)) Q E s := by
  unfold Builtin.List.listLengthHint
  refine wpAny_bind (wpAny_specialOf hit.typeIs nolen_rt ?_)
  show wpAny _ A (specialOf (Value.ref it) (Str.ofString "__length_hint__") >>= _) _ _ _
  refine wpAny_bind (wpAny_specialOf hit.typeIs hint_rt ?_)
  generalize hid : ("reversed.__length_hint__" : String) = id0
  wp_delta
  rw [show splitId id0 = some ("reversed", "__length_hint__") from by subst hid; decide +kernel]
  subst hid
  refine wpAny_bind (wpAny_isInstance (b := true) hit.typeIs (by rw [isSubtype_type]; kernel_rfl) ?_)
  rw [if_neg (show ¬ (!true) = true from Bool.false_ne_true)]
  dsimp only
  rw [if_neg (by decide +kernel)]
  refine wpAny_bind (wpAny_rule ?_)
  have hb : bindSpecial (Value.builtin "reversed.__length_hint__") (Value.ref it) = pure (Value.builtin "reversed.__length_hint__", [Value.ref it]) := by
    unfold bindSpecial
    rw [type_hint]
    rfl
  refine wpAny_bind (wpAny_of_eq hb ?_)
  dsimp only
  refine wpAny_bind (wpAny_attempt (call_hint hit ht hn fun tk tv => ?_))
  dsimp only
  have ha : asInt? (Value.int ((items.size : Nat) : Int) tv) = pure (some ((items.size : Nat) : Int)) := rfl
  rw [ha]
  have key : ∀ (x : Option Int) (f : Option Int → Sem Bool) (s' : Shared), wpAny (model prog w) A (f x) Q E s' → wpAny (model prog w) A (pure x >>= f) Q E s' := fun x f s' h => wpAny_bind (wpAny_pure h)
  refine key _ _ _ ?_
  dsimp only
  have hl := line63
  have hf : Builtin.List.listFitsIndex ((items.size : Nat) : Int) = true := fitsIndex_both (by omega) (by omega)
  rw [hf, if_neg (show ¬ (!true) = true from Bool.false_ne_true)]
  rw [if_neg (show ¬ ((items.size : Nat) : Int) < 0 from Int.not_lt.mpr (Int.natCast_nonneg _))]
  rw [Int.toNat_natCast, notLongL hn, if_neg Bool.false_ne_true]
  exact wpAny_pure (hQ _ _)

theorem walksRt (hh : A.handled = none) (I l : Addr) (hne : l ≠ I) (items : Array Value) (hsz : items.size ≤ sizeLine) :
    Walks prog w A I [I, l] [I] items.size (fun i v => items[items.size - 1 - i]? = some v) (fun i h => i ≤ items.size ∧ IsRt h I l ((items.size : Int) - 1 - (i : Int)) ∧ IsTup h l items) where
  sub := fun b hb => by simp at hb; simp [hb]
  frame := fun _ _ _ x hk => ⟨x.1, x.2.1.at fun o e => hk I (by simp) o e, let ⟨o, ho, r⟩ := x.2.2; ⟨o, hk l (by simp) o ho, r⟩⟩
  item := fun i s Q E hi x hQ => by
    have e : (items.size : Int) - 1 - (i : Int) = ((items.size - 1 - i : Nat) : Int) := by omega
    have hit := x.2.1
    rw [e] at hit
    have hx : items[items.size - 1 - i]? = some (items[items.size - 1 - i]'(by omega)) := Array.getElem?_eq_getElem (by omega)
    refine next_rt_item hit x.2.2 hx hsz fun h' hit' hs' => ?_
    have e2 : ((items.size - 1 - i : Nat) : Int) - 1 = (items.size : Int) - 1 - ((i + 1 : Nat) : Int) := by omega
    rw [e2] at hit'
    exact hQ _ h' (s.toks + 1) hx ⟨hi, hit', let ⟨o, ho, r⟩ := x.2.2; ⟨o, (hs'.2 l hne).trans ho, r⟩⟩ fun b o hb eo => hs'.extBut b o (fun h => hb (by simp [h])) eo
  done := fun s Q E x hQ => by
    have e : (items.size : Int) - 1 - (items.size : Int) = -1 := by omega
    have hit := x.2.1
    rw [e] at hit
    exact next_rt_end hh hit fun h' he' => hQ h' s.toks fun b o hb eo => he' b o (fun h => hb (by simp [h])) eo
  self := fun _ _ _ _ x hQ => iter_rt x.2.1 hQ

theorem collect_rt {it l : Addr} {items : Array Value} {Q : List Value → Shared → Prop} (hh : A.handled = none) (hit : IsRt s.heap it l ((items.size : Int) - 1)) (hl : IsTup s.heap l items) (hne : l ≠ it) (hn : items.size ≤ sizeLine)
    (hQ : ∀ (h' : Heap) (tk : Nat) (acc : Array Value), (∀ b o, b ≠ it → s.heap.get? b = some o → h'.get? b = some o) → ItemsOf (fun i v => items[items.size - 1 - i]? = some v) acc items.size → Q acc.toList { s with heap := h', toks := tk }) :
    wpAny (model prog w) A (collect (.ref it)) Q E s := by
  have W := (walksRt (prog := prog) (w := w) (A := A.in1) hh it l hne items hn).toS
  obtain ⟨oi, hoi, _⟩ := id hit
  obtain ⟨ol, hol, _⟩ := id hl
  have hSi : s.heap.objs.size ≠ it := Nat.ne_of_gt (Heap.lt_size hoi)
  have hSl : s.heap.objs.size ≠ l := Nat.ne_of_gt (Heap.lt_size hol)
  have hSf : s.heap.objs.size ∉ [it, l] := by simp only [List.mem_cons, List.not_mem_nil, or_false, not_or]; exact ⟨hSi, hSl⟩
  let s1 : Shared := { s with heap := s.heap.push { cls := .type "list", data := .seq ([] : List Value).toArray } }
  have hS₁ : s1.heap.get? s.heap.objs.size = some { cls := .type "list", data := .seq ([] : List Value).toArray } := Heap.get?_push_size _ rfl
  have hit1 : IsRt s1.heap it l ((items.size : Int) - 1) := hit.at fun o e => Heap.get?_push_of_some _ e
  have hl1 : IsTup s1.heap l items := let ⟨o, ho, r⟩ := hl; ⟨o, Heap.get?_push_of_some _ ho, r⟩
  have hT : s1.TypeIs (.ref it) "reversed" := IsRt.typeIs (s := s1) hit1
  have h1 : Builtin.List.listSameRef (.ref s.heap.objs.size) (.ref it) = false := by simp [Builtin.List.listSameRef, hSi]
  have e0 : ((items.size : Nat) : Int) - 1 - ((0 : Nat) : Int) = (items.size : Int) - 1 := by omega
  unfold collect
  refine wpAny_bind (wpAny_runValue (codeAny_builtin F.entry_proto_collect ?_))
  rw [Around.under_plainId F.plain_proto_collect _]
  show wpAny _ A.in1 (newList [] >>= fun l' => again (.builtin "list.__iadd__" ⟨[l', .ref it], []⟩)) _ _ s
  refine wpAny_bind (wpAny_newObj_type (wpAny_pure ⟨plainId_quiet F.plain_list_iadd _, codeAny_builtin F.entry_list_iadd ?_⟩))
  rw [Around.under_plainId F.plain_list_iadd _]
  show wpAny _ A.in1 (Builtin.List.listExtendWith (.ref s.heap.objs.size) (.ref it) (.ref s.heap.objs.size)) _ _ s1
  unfold Builtin.List.listExtendWith
  refine wpAny_bind (wpAny_typeOf hT ?_)
  rw [if_neg (by rw [h1]; decide)]
  refine wpAny_bind (iter_rt (s := s1) hit1 (wpAny_bind (wpAny_holding (hint_ok (s := s1) hit1 hl1 hn fun tk b => ?_))))
  have loop : ∀ (h : Heap), (∀ b o, b ≠ s.heap.objs.size → s1.heap.get? b = some o → h.get? b = some o) → (∃ c, h.get? s.heap.objs.size = some { cls := .type "list", dict := none, data := .seq #[] c, slots := #[] }) →
      wpAny (model prog w) A.in1 (again (.builtin "list.extend.loop" ⟨[.ref s.heap.objs.size, .ref it, .ref s.heap.objs.size], []⟩)) (fun fin s' =>
      match fin with
      | Fin.done f => (fun r s' => match r with
          | Except.ok (Flow.ret v) => wpAny (model prog w) A (match v with
            | Value.ref a => do
              let o ← load a
              match o.data with
                | Data.seq xs epoch => pure xs.toList
                | x => unsupported "internal:collect"
            | x => unsupported "internal:collect") Q E s'
          | Except.ok a => False
          | Except.error e => E e s') (Except.ok f) s'
      | Fin.again c' => c'.quiet = true ∧ codeAny (model prog w) A c' (fun r s' => match r with
          | Except.ok (Flow.ret v) => wpAny (model prog w) A (match v with
            | Value.ref a => do
              let o ← load a
              match o.data with
                | Data.seq xs epoch => pure xs.toList
                | x => unsupported "internal:collect"
            | x => unsupported "internal:collect") Q E s'
          | Except.ok a => False
          | Except.error e => E e s') s') E { s with heap := h, toks := tk } := fun h hk ⟨c, hS⟩ => by
    have hit2 : IsRt h it l ((items.size : Int) - 1 - ((0 : Nat) : Int)) := by rw [e0]; exact hit1.at fun o e => hk _ _ (Ne.symm hSi) e
    have hl2 : IsTup h l items := let ⟨o, ho, r⟩ := hl1; ⟨o, hk _ _ (Ne.symm hSl) ho, r⟩
    refine wpAny_pure ⟨plainId_quiet F.plain_extend_loop _, codeAny_extend_loopS W hn _ hSf _ items.size 0 { s with heap := h, toks := tk } _ c rfl (Nat.zero_le _) ⟨Nat.zero_le _, hit2, hl2⟩ hS (ItemsOf.nil _) fun s' acc' c' hm hS' hacc => ?_⟩
    show wpAny _ A (load s.heap.objs.size >>= _) _ _ s'
    refine wpAny_bind (wpAny_load hS' ?_)
    refine wpAny_pure ?_
    rw [Moved.eq_with hm]
    refine hQ s'.heap s'.toks acc' (fun b o hb e => hm.heap b o (fun hmem => ?_) (hk b o ?_ (Heap.get?_push_of_some _ e))) hacc
    · rcases List.mem_cons.mp hmem with e' | hmem
      · exact absurd (Heap.lt_size e) (by rw [e']; exact Nat.lt_irrefl _)
      · exact hb (List.mem_singleton.mp hmem)
    · exact Nat.ne_of_lt (Heap.lt_size e)
  have nr : (Builtin.List.listLengthHint (.ref it) = Builtin.List.listLengthHint (.ref it)) := rfl
  cases b with
  | false =>
    show wpAny _ A.in1 (if (false || _) = true then _ else _) _ _ _
    rw [if_neg (by decide +kernel)]
    exact loop s1.heap (fun _ _ _ e => e) ⟨0, hS₁⟩
  | true =>
    show wpAny _ A.in1 (rule "list.extend.makes-room" >>= fun _ => Builtin.List.listTouch (.ref s.heap.objs.size) >>= fun _ =>
      again (.builtin "list.extend.loop" ⟨[.ref s.heap.objs.size, .ref it, .ref s.heap.objs.size], []⟩)) _ _ _
    refine wpAny_bind (wpAny_rule (wpAny_bind ?_))
    show wpAny _ A.in1 (updateSeq s.heap.objs.size (·.push .none) >>= fun _ => updateSeq s.heap.objs.size (·.pop)) _ _ _
    refine wpAny_bind (wpAny_updateSeq hS₁ rfl ?_)
    have hS₂ := Heap.get?_update_self (Obj.mapSeq (·.push Value.none)) hS₁ rfl
    refine wpAny_updateSeq hS₂ rfl ?_
    have hS₃ := Heap.get?_update_self (Obj.mapSeq (·.pop)) hS₂ rfl
    exact loop ((s1.heap.update s.heap.objs.size (Obj.mapSeq (·.push Value.none))).update s.heap.objs.size (Obj.mapSeq (·.pop))) (fun b o hb e => (Heap.get?_update_other _ _ (Ne.symm hb)).trans ((Heap.get?_update_other _ _ (Ne.symm hb)).trans e)) ⟨_, hS₃⟩
theorem code_tuple_new_rt {it l : Addr} {items : Array Value} {Q₁ : Value → Shared → Prop} (hh : A.handled = none) (hit : IsRt s.heap it l ((items.size : Int) - 1)) (hl : IsTup s.heap l items) (hne : l ≠ it) (hn : items.size ≤ sizeLine)
    (h : ∀ (h' : Heap) (tk : Nat) (acc : Array Value), (∀ b o, b ≠ it → s.heap.get? b = some o → h'.get? b = some o) → ItemsOf (fun i v => items[items.size - 1 - i]? = some v) acc items.size →
      Q₁ (.ref h'.objs.size) { s with heap := h'.push { cls := .type "tuple", data := .seq acc }, toks := tk }) :
    codeAny (model prog w) A (.call (.builtin "tuple.__new__") ⟨[.type "tuple", .ref it], []⟩) (wants Q₁ E) s := by
  have hsub := sub_tuple_self
  have hinit := init_tuple_lookup
  have hmh := madeHere_tuple
  have hTI : s.TypeIs (.ref it) "reversed" := hit.typeIs
  have hh1 : A.in1.handled = none := hh
  refine codeAny_of_tree ?_
  show wpAny _ A.in1 (do checkBuiltinCall "tuple.__new__" ⟨[.type "tuple", .ref it], []⟩; again (.builtin "tuple.__new__" ⟨[.type "tuple", .ref it], []⟩)) _ _ s
  refine wpAny_bind (wpAny_of_eq (F.newCall_tuple_1 _) (wpAny_pure ⟨plainId_quiet F.plain_tuple_new _, codeAny_builtin F.entry_tuple_new ?_⟩))
  rw [Around.under_plainId F.plain_tuple_new _]
  wp_walk using wpAny_typeOf hTI, collect_rt (A := A.in1) hh1 hit hl hne hn
  intro h' tk acc hk hacc
  show wpAny _ _ (Builtin.Tuple.tupleExact acc.toList.toArray >>= fun v => ret v) _ _ _
  unfold Builtin.Tuple.tupleExact
  refine wpAny_bind (wpAny_newObj_type (wpAny_pure ?_) (by show acc.toList.toArray.size ≤ sizeLine; simp only [Array.toArray_toList]; rw [hacc.1]; exact hn))
  have e : acc.toList.toArray = acc := by simp
  rw [e]
  exact h h' tk acc hk hacc
theorem call_tuple_rt {it l : Addr} {items : Array Value} {Q : Value → Shared → Prop} (hh : A.handled = none) (hit : IsRt s.heap it l ((items.size : Int) - 1)) (hl : IsTup s.heap l items) (hne : l ≠ it) (hn : items.size ≤ sizeLine)
    (hQ : ∀ (h' : Heap) (tk : Nat) (acc : Array Value), (∀ b o, b ≠ it → s.heap.get? b = some o → h'.get? b = some o) → ItemsOf (fun i v => items[items.size - 1 - i]? = some v) acc items.size →
      Q (.ref h'.objs.size) { s with heap := h'.push { cls := .type "tuple", data := .seq acc }, toks := tk }) :
    wpAny (model prog w) A (call (.type "tuple") [.ref it]) Q E s := by
  refine callType_codes (Q₁ := fun obj s₁ => s₁.TypeIs obj "tuple" ∧ Q obj s₁) F.called_tuple (F.typeCall_tuple_1 _) F.entry_object_init
    (code_tuple_new_rt (A := A.in1) hh hit hl hne hn fun h' tk acc hk hacc => ⟨⟨_, Heap.get?_push_size _ rfl, rfl⟩, hQ h' tk acc hk hacc⟩) fun obj s₁ h₁ => ?_
  exact ⟨h₁.1, F.args_object_init_2 obj _, object_init_meets F.called_tuple.init.lookup F.called_tuple.made (by decide) prog w A.in1 _ s₁ ⟨h₁.1, rfl, h₁.2⟩⟩
end
/-- tuple(reversed(x)), x a list or a tuple -/
def tTupRevA (K : PySem.W.Frag) (te : TE) : TE := fun σ H Q => te σ H fun v H1 => ∃ (a : Addr) (xs : List V), v = .ref a ∧ (SqL K H1 a xs ∨ SqT K H1 a xs) ∧ ∀ q, H1 q = none → Q (.ref q) (upd H1 q (.tup xs.reverse))
section
variable {X : Cx}
theorem pe_tupRevA {e : Expr} {te : TE} {p p2 pos pos2 : Pos} (hc : X.calm = true) (hg : Gl X "tuple") (hm : X.mg "tuple" = none) (hg2 : Gl X "reversed") (hm2 : X.mg "reversed" = none) (he : PE X e te)
    (hs : starEach [e] X.env = (false, eval e X.env) :: starEach [] X.env := by rfl)
    (hs2 : starEach [.Call (.Name "reversed" p2) [e] [] pos2] X.env = (false, eval (.Call (.Name "reversed" p2) [e] [] pos2) X.env) :: starEach [] X.env := by rfl) :
    PE X (.Call (.Name "tuple" p) [.Call (.Name "reversed" p2) [e] [] pos2] [] pos) (tTupRevA X.K te) := by
  refine ⟨fun pins s σ H Q I h => ?_⟩
  refine Call_ (ld_blt I hg hm boot_tuple (PyProof.Rows.callWith_type1 (args_cons (Call_ (ld_blt I hg2 hm2 PyProof.Rows.boot_reversed (PyProof.Rows.callWith_type1 (args_cons (thn (he.run pins s σ H _ I h) fun u s1 ⟨v, H1, I1, r1, q1⟩ => args_nil ?_) hs) hs rfl))) hs2) hs2 rfl))
  obtain ⟨a, xs, ev, hq, q⟩ := q1
  subst ev
  obtain rfl : u = Value.ref a := r1
  obtain ⟨f0, f1, f2, f3, f4, f5⟩ := I1.fpOk (H' := H1) (b := s1.heap.objs.size) (Nat.le_refl _) (I1.hok.fresh (Nat.le_refl _))
  rcases hq with hq | hq
  · obtain ⟨its, rv, p', hz⟩ := I1.list hq
    have hl := p'.isList
    obtain ⟨ol, hol, _⟩ := id hl
    have hne : a ≠ s1.heap.objs.size := Nat.ne_of_lt (Heap.lt_size hol)
    have hn : its.toArray.size ≤ sizeLine := by rw [List.size_toArray, ← rv.length]; exact hz
    refine call_reversed_list p'.isList (args_nil ?_)
    have I2 : Inv X pins σ H1 { s1 with heap := s1.heap.push (revObj a ((its.toArray.size : Int) - 1)) } := I1.kept (t' := s1.toks) fun b o e => Heap.get?_push_of_some _ e
    refine call_tuple_rev (s := { s1 with heap := s1.heap.push (revObj a ((its.toArray.size : Int) - 1)) }) (I1.ok.hd hc) ⟨_, Heap.get?_push_size _ rfl, rfl, rfl⟩ (hl.push _) hne hn fun h' tk acc hk hi => ?_
    have I3 : Inv X pins σ H1 { s1 with heap := h', toks := tk } := I2.turned (t' := tk) (fun b o hb e => hk b o hb e) f0 f1 f3 f4 f5
    refine ⟨.ref h'.objs.size, upd H1 h'.objs.size (.tup xs.reverse), I3.laid (t' := tk) (fun c o e => Heap.get?_push_of_some _ e) (Nat.le_refl _) (show ObjOk X.prog X.w _ _ _ (.tup xs.reverse) from ⟨by rw [List.length_reverse]; exact hz, acc.toList, vals_rev rv hi, ?_⟩), rfl, q _ (I3.hok.fresh (Nat.le_refl _))⟩
    rw [Array.toArray_toList]
    exact IsTup.new _ _
  · obtain ⟨its, rv, p', hz⟩ := I1.tuple hq
    obtain ⟨ol, hol, _⟩ := id p'
    have hne : a ≠ s1.heap.objs.size := Nat.ne_of_lt (Heap.lt_size hol)
    have hn : its.toArray.size ≤ sizeLine := by rw [List.size_toArray, ← rv.length]; exact hz
    have l63 := line63
    refine call_reversed_tup p' (fun A E Q k => len_tuple p' (by omega) k) (args_nil ?_)
    have I2 : Inv X pins σ H1 { s1 with heap := s1.heap.push (rtObj a ((its.toArray.size : Int) - 1)), toks := s1.toks + 1 + 1 } := I1.kept (t' := s1.toks + 1 + 1) fun b o e => Heap.get?_push_of_some _ e
    refine call_tuple_rt (s := { s1 with heap := s1.heap.push (rtObj a ((its.toArray.size : Int) - 1)), toks := s1.toks + 1 + 1 }) (I1.ok.hd hc) ⟨_, Heap.get?_push_size _ rfl, rfl, rfl⟩ (let ⟨o, ho, r⟩ := p'; ⟨o, Heap.get?_push_of_some _ ho, r⟩) hne hn fun h' tk acc hk hi => ?_
    have I3 : Inv X pins σ H1 { s1 with heap := h', toks := tk } := I2.turned (t' := tk) (fun b o hb e => hk b o hb e) f0 f1 f3 f4 f5
    refine ⟨.ref h'.objs.size, upd H1 h'.objs.size (.tup xs.reverse), I3.laid (t' := tk) (fun c o e => Heap.get?_push_of_some _ e) (Nat.le_refl _) (show ObjOk X.prog X.w _ _ _ (.tup xs.reverse) from ⟨by rw [List.length_reverse]; exact hz, acc.toList, vals_rev rv hi, ?_⟩), rfl, q _ (I3.hok.fresh (Nat.le_refl _))⟩
    rw [Array.toArray_toList]
    exact IsTup.new _ _
end
end RfT

set_option Elab.async false
set_option linter.all false
set_option maxRecDepth 100000
set_option maxHeartbeats 4000000
/-! Rf11: methods, reversals. -/
namespace Rf
open PySem PySem.Spec L2

section
variable {K : PySem.W.Frag} {W : Wd} {A : Own} {H : Hp} {ρ : Env} {σ : St}
theorem chg_fin {Q : VK} {i : Nat} {a : Addr} {o2 : MO} {u : HO} {d : PyData} {v : V} {H0 : Hp} (S : Sim K W A H ρ σ) (hA : at2 A i = some a) (hu : ∃ u0, H a = some u0 ∧ ¬ isT u0) (m : MoOk K (Lk W A) (upd H a u) o2 a) (r : Rep K (Lk W A) (upd H a u) d v)
    (e0 : Ext (ow A) H0 H) (q : ∀ v' H', Ext (ow A) H0 H' → PostV K W A H0 H' (chg ρ i o2) σ v' (.v d) → Q v' H') : Q v (upd H a u) := by
  obtain ⟨S2, e2⟩ := S.chg hA m
  exact q _ _ (e0.trans e2) ⟨S2, r⟩
theorem wrX {u u0 : HO} {a : Addr} (hA : a ∈ Lk W A) (h : H a = some u0) (ht : ¬ isT u0) : Ext [a] H (upd H a u) ∧ ∀ b, b ∈ [a] → b ∈ Lk W A :=
  ⟨Ext.wr (List.mem_singleton.mpr rfl) h ht, fun b z => by rw [List.mem_singleton.mp z]; exact hA⟩
theorem key_rep {L : List Addr} {d : PyData} {v : V} {k : Key} (r : Rep K L H d v) (h : dK d = some k) : v = kV k := by
  cases r <;> first | (cases h; done) | skip
  · cases h; rfl
  · cases h; rfl
abbrev DR (K : PySem.W.Frag) (L : List Addr) (H : Hp) : Key × PyData → Key × V → Prop := fun p q => p.1 = q.1 ∧ Rep K L H p.2 q.2
theorem dr_find {L : List Addr} (k : Key) {ks : List (Key × PyData)} {kvs : List (Key × V)} (r : Paired (DR K L H) ks kvs) :
    (∃ d v, (ks.find? fun p => decide (p.1 = k)).map (·.2) = some d ∧ valV kvs k = some v ∧ Rep K L H d v) ∨ ((ks.find? fun p => decide (p.1 = k)).map (·.2) = none ∧ valV kvs k = none) := by
  induction r with
  | nil => exact .inr ⟨rfl, rfl⟩
  | @cons p q ps qs h _ ih =>
    obtain ⟨h1, h2⟩ := h
    by_cases e : p.1 = k
    · refine .inl ⟨p.2, q.2, ?_, valV_pos (by rw [← h1]; exact e), h2⟩
      rw [List.find?_cons]; simp [e]
    · have e' : ¬ q.1 = k := by rw [← h1]; exact e
      rw [valV_neg e']
      rw [List.find?_cons]
      simpa [e] using ih
theorem dr_drop {L : List Addr} (k : Key) {ks : List (Key × PyData)} {kvs : List (Key × V)} (r : Paired (DR K L H) ks kvs) : Paired (DR K L H) (ks.filter fun p => !decide (p.1 = k)) (dropK kvs k) := by
  unfold dropK
  induction r with
  | nil => exact .nil
  | @cons p q ps qs h _ ih =>
    rw [List.filter_cons, List.filter_cons]
    by_cases e : p.1 = k
    · have e' : q.1 = k := by rw [← h.1]; exact e
      simpa [e, e'] using ih
    · have e' : ¬ q.1 = k := by rw [← h.1]; exact e
      simp only [e, e', decide_false, Bool.not_false, if_true, ne_eq, not_false_iff, decide_true]
      exact .cons h ih
theorem dr_none {L : List Addr} {k : Key} {ks : List (Key × PyData)} {kvs : List (Key × V)} (r : Paired (DR K L H) ks kvs) (h : valV kvs k = none) : (ks.filter fun p => !decide (p.1 = k)) = ks := by
  induction r with
  | nil => rfl
  | @cons p q ps qs h1 _ ih =>
    by_cases e : q.1 = k
    · rw [valV_pos e] at h; cases h
    · rw [valV_neg e] at h
      have e' : ¬ p.1 = k := by rw [h1.1]; exact e
      rw [List.filter_cons, ih h]
      simp [e']
theorem dr_any {L : List Addr} (k : Key) {ks : List (Key × PyData)} {kvs : List (Key × V)} (r : Paired (DR K L H) ks kvs) : (ks.any fun p => decide (p.1 = k)) = kvs.any fun q => decide (q.1 = k) := by
  induction r with
  | nil => rfl
  | @cons p q ps qs h _ ih => rw [List.any_cons, List.any_cons, ih, h.1]
theorem dr_map {L : List Addr} (k : Key) {d : PyData} {v : V} (rv : Rep K L H d v) {ks : List (Key × PyData)} {kvs : List (Key × V)} (r : Paired (DR K L H) ks kvs) : Paired (DR K L H) (ks.map fun p => if p.1 = k then (p.1, d) else p) (kvs.map fun q => if q.1 = k then (q.1, v) else q) := by
  induction r with
  | nil => exact .nil
  | @cons p q ps qs h _ ih =>
    rw [List.map_cons, List.map_cons]
    refine .cons ?_ ih
    by_cases e : p.1 = k
    · have e' : q.1 = k := by rw [← h.1]; exact e
      rw [if_pos e, if_pos e']; exact ⟨h.1, rv⟩
    · have e' : ¬ q.1 = k := by rw [← h.1]; exact e
      rw [if_neg e, if_neg e']; exact h
theorem dr_snoc {L : List Addr} (k : Key) {d : PyData} {v : V} (rv : Rep K L H d v) {ks : List (Key × PyData)} {kvs : List (Key × V)} (r : Paired (DR K L H) ks kvs) : Paired (DR K L H) (ks ++ [(k, d)]) (kvs ++ [(k, v)]) := by
  induction r with
  | nil => exact .cons ⟨rfl, rv⟩ .nil
  | @cons p q ps qs h _ ih => exact .cons h ih
theorem dr_put {L : List Addr} (k : Key) {d : PyData} {v : V} (rv : Rep K L H d v) {ks : List (Key × PyData)} {kvs : List (Key × V)} (r : Paired (DR K L H) ks kvs) : Paired (DR K L H) (putP ks k d) (putK kvs k v) := by
  unfold putP putK
  rw [dr_any k r]
  split
  · exact dr_map k rv r
  · exact dr_snoc k rv r
theorem dr_ext {L O : List Addr} {H' : Hp} (e : Ext O H H') (s : ∀ a, a ∈ O → a ∈ L) {ks : List (Key × PyData)} {kvs : List (Key × V)} (r : Paired (DR K L H) ks kvs) : Paired (DR K L H') ks kvs := L2.Paired.mapP r fun p q z => ⟨z.1, z.2.ext e s⟩
end
section
variable {X : Cx} {F : Fn} {o e f : Expr} {es : List Expr} {i : Nat} {ees : Es} {ee ef : E} {apos cpos : Pos}
/-- a name as a method's object -/
def isName : Expr → Bool
  | .Name _ _ => true
  | _ => false
theorem base_of (h : isName o = true) (m : Str) : attributeBase o m X.env (eval o X.env) = eval o X.env := by
  cases o <;> first | rfl | cases h
theorem met_start {m : Mt} {W : Wd} {A : Own} {ρ ρ' : Env} {H : Hp} {σ : St} {rr : RV} (S : Sim X.K W A H ρ σ) (he : ev F (.met m i ees) ρ = .ok (rr, ρ')) :
    ∃ a o0 ds ρ1 o1 d o2, at2 A i = some a ∧ σ[i]? = some (some (.ref a)) ∧ own ρ i = some o0 ∧ MoOk X.K (Lk W A) H o0 a ∧ metK m o0 = true ∧ evK F ees ρ = .ok (ds, ρ1) ∧ own ρ1 i = some o1 ∧ metD m o1 ds = some (d, o2) ∧ rr = .v d ∧ ρ' = chg ρ1 i o2 := by
  unfold ev at he
  obtain ⟨o0, ho, he⟩ := bnd_inv he
  obtain ⟨a, h1, h2, h3⟩ := S.own_at (ofO_inv ho)
  split at he
  · rename_i hk
    obtain ⟨⟨ds, ρ1⟩, h4, he⟩ := bnd_inv he
    obtain ⟨o1, h5, he⟩ := bnd_inv he
    obtain ⟨⟨d, o2⟩, h6, he⟩ := bnd_inv he
    cases he
    exact ⟨a, o0, ds, ρ1, o1, d, o2, h1, h2, ofO_inv ho, h3, hk, h4, ofO_inv h5, ofO_inv h6, rfl, rfl⟩
  · cases he
theorem own_same {W : Wd} {A : Own} {ρ : Env} {H : Hp} {σ : St} {a : Addr} {o1 : MO} (S : Sim X.K W A H ρ σ) (hA : at2 A i = some a) (h : own ρ i = some o1) : MoOk X.K (Lk W A) H o1 a := by
  obtain ⟨b, h1, _, h3⟩ := S.own_at h
  rw [hA] at h1; cases h1
  exact h3
theorem e_append (hn : isName o = true) (ho : PE X o (tVar i)) (ha : PA X (e :: es) (tK X.K (evK F ees))) (hb : (e :: es).all (fun e => !starB e) = true) (hl : (e :: es).length < 10) (hline : (apos.endLine == cpos.line) = true) :
    PE X (.Call (.Attribute o "append" apos) (e :: es) [] cpos) (tV X.K (ev F (.met .append i ees))) := by
  have hb' := hb
  rw [List.all_cons, Bool.and_eq_true] at hb'
  refine PE.imp (pe_bm PySem.F.plainAttrs_list PySem.F.slot_list_append PySem.F.type_list_append mt_append ho ha (base_of hn _) (star_few hb hl) hline (star_one (by simpa using hb'.1)) (star_none hb'.2)) fun σ H Q ⟨W, A, ρ, rr, ρ', S, he, q⟩ => ?_
  obtain ⟨a, o0, ds, ρ1, o1, d, o2, hA, hσ, h0, mo, hk, h1, h2, h3, rfl, rfl⟩ := met_start S he
  cases mo with
  | d h r => cases hk
  | l h r =>
    refine ⟨_, hσ, .inl ⟨rfl, _, .inl (.inl h)⟩, W, A, ρ, ds, ρ1, S, h1, fun vs H1 e1 S1 r1 => ?_⟩
    have mo := own_same S1 hA h2
    cases mo with
    | d h r => cases h3
    | l h r =>
      rename_i zs xs
      cases r1 with
      | nil => cases h3
      | cons r0 rs =>
        cases rs with
        | cons _ _ => cases h3
        | nil =>
          have h3 : (if xs.length < lim then some (PyData.none, MO.l (xs ++ [_])) else none) = some (d, o2) := h3
          split at h3
          · rename_i hz
            cases h3
            obtain ⟨e2, s2⟩ := wrX (u := .lst (zs ++ [_])) (W := W) (ow_Lk _ (at2_ow hA)) h (fun z => z)
            exact ⟨a, zs, _, rfl, rfl, h, by rw [← r.length, ← lim_eq]; exact hz, chg_fin S1 hA ⟨_, h, fun z => z⟩ (.l upd_same ((r.append (.cons r0 .nil)).ext e2 s2)) .non e1 q⟩
          · cases h3
def rExtA (K : PySem.W.Frag) : V → List V → Hp → VK → Prop := fun x vs H Q => ∃ l b xs zs, x = .ref l ∧ vs = [.ref b] ∧ H l = some (.lst xs) ∧ LsK K H b zs ∧ xs.length + zs.length ≤ sizeLine ∧ Q .non (upd H l (.lst (xs ++ zs)))
theorem mt_extA : MtM X "list.extend" (rExtA X.K) := by
  rintro pins s σ H x vs v us Q I rx rv ⟨l, b, xs, zs, rfl, rfl, hH, hB, hz, q⟩
  cases rx
  obtain ⟨u, rfl, ru⟩ := rv.one
  cases ru
  obtain ⟨z, its, n, r, hl, ea⟩ := I.lstM hH
  obtain ⟨z2, its2, n2, r2, eb⟩ := hB.obj I
  have hl2 := r2.length
  have s1 : its.toArray.size = its.length := List.size_toArray
  have s2 : its2.toArray.size = its2.length := List.size_toArray
  have fits : its.toArray.size + its2.toArray.size ≤ sizeLine := by omega
  have room : ¬ (!its.toArray.isEmpty && Builtin.List.listTooLong (its.toArray.size + its2.toArray.size)) = true := fun w => by
    rw [notLongL fits, Bool.and_false] at w; cases w
  have fin : EP X pins σ Q Value.none { s with heap := s.heap.update l (Obj.mapSeq (· ++ its2.toArray)) } := by
    refine ⟨.non, _, I.lset (t' := s.toks) (its' := its ++ its2) hH ea (by simp) (r.append r2) ?_, rfl, q⟩
    rw [List.length_append]; exact hz
  exact call_meets PySem.F.slot_list_extend ⟨_, ea, rfl⟩ PySem.F.entry_list_extend (PySem.F.args_list_extend_2 _ _) (AutoSeq1.list_extend_list_list_0 l its.toArray n b its2.toArray n2 room (by omega) (by omega)) ⟨ea, eb, fin⟩
theorem e_extend (hn : isName o = true) (ho : PE X o (tVar i)) (ha : PA X (e :: es) (tK X.K (evK F ees))) (hb : (e :: es).all (fun e => !starB e) = true) (hl : (e :: es).length < 10) (hline : (apos.endLine == cpos.line) = true) :
    PE X (.Call (.Attribute o "extend" apos) (e :: es) [] cpos) (tV X.K (ev F (.met .extend i ees))) := by
  have hb' := hb
  rw [List.all_cons, Bool.and_eq_true] at hb'
  refine PE.imp (pe_bm PySem.F.plainAttrs_list PySem.F.slot_list_extend PySem.F.type_list_extend mt_extA ho ha (base_of hn _) (star_few hb hl) hline (star_one (by simpa using hb'.1)) (star_none hb'.2)) fun σ H Q ⟨W, A, ρ, rr, ρ', S, he, q⟩ => ?_
  obtain ⟨a, o0, ds, ρ1, o1, d, o2, hA, hσ, h0, mo, hk, h1, h2, h3, rfl, rfl⟩ := met_start S he
  cases mo with
  | d h r => cases hk
  | l h r =>
    refine ⟨_, hσ, .inl ⟨rfl, _, .inl (.inl h)⟩, W, A, ρ, ds, ρ1, S, h1, fun vs H1 e1 S1 r1 => ?_⟩
    have mo := own_same S1 hA h2
    cases mo with
    | d h r => cases h3
    | l h r =>
      rename_i zs xs
      cases r1 with
      | nil => cases h3
      | @cons d0 ds0 v0 vs0 r0 rs =>
        cases rs with
        | cons _ _ => cases d0 <;> cases h3
        | nil =>
          obtain ⟨ys, rfl⟩ : ∃ ys, d0 = .list ys := by
            cases d0 <;> first | (cases h3; done) | exact ⟨_, rfl⟩
          obtain ⟨b, ws, rfl, hb2, hb3⟩ := (Top.of r0).list_inv
          have h3 : (if xs.length + ys.length ≤ lim then some (PyData.none, MO.l (xs ++ ys)) else none) = some (d, o2) := h3
          split at h3
          · rename_i hz
            cases h3
            obtain ⟨e2, s2⟩ := wrX (u := .lst (zs ++ ws)) (W := W) (ow_Lk _ (at2_ow hA)) h (fun z => z)
            exact ⟨a, b, zs, ws, rfl, rfl, h, hb2, by rw [← r.length, ← hb3.length, ← lim_eq]; exact hz, chg_fin S1 hA ⟨_, h, fun z => z⟩ (.l upd_same ((r.append hb3).ext e2 s2)) .non e1 q⟩
          · cases h3
theorem rep_dropLast {K : PySem.W.Frag} {L : List Addr} {H : Hp} {ds : List PyData} {vs : List V} (r : RepAll K L H ds vs) : RepAll K L H ds.dropLast vs.dropLast := by
  rw [List.dropLast_eq_take, List.dropLast_eq_take, r.length]
  exact r.take _
theorem e_pop0 (hn : isName o = true) (ho : PE X o (tVar i)) (hline : (apos.endLine == cpos.line) = true) :
    PE X (.Call (.Attribute o "pop" apos) [] [] cpos) (tV X.K (ev F (.met .pop0 i .nil))) := by
  refine PE.imp (pe_bm0 PySem.F.plainAttrs_list PySem.F.slot_list_pop PySem.F.type_list_pop mt_pop ho (base_of hn _) hline) fun σ H Q ⟨W, A, ρ, rr, ρ', S, he, q⟩ => ?_
  obtain ⟨a, o0, ds, ρ1, o1, d, o2, hA, hσ, h0, mo, hk, h1, h2, h3, rfl, rfl⟩ := met_start S he
  unfold evK at h1
  cases h1
  rw [h0] at h2; cases h2
  cases mo with
  | d h r => cases hk
  | l h r =>
    rename_i zs xs
    refine ⟨_, hσ, .inl ⟨rfl, _, .inl (.inl h)⟩, ?_⟩
    have h3 : (xs.getLast?).map (fun x => (x, MO.l xs.dropLast)) = some (d, o2) := h3
    cases hl : xs.getLast? with
    | none => rw [hl] at h3; cases h3
    | some x =>
      rw [hl] at h3; cases h3
      rw [List.getLast?_eq_getElem?] at hl
      obtain ⟨v, hv, rv⟩ := r.get hl
      obtain ⟨e2, s2⟩ := wrX (u := .lst zs.dropLast) (W := W) (ow_Lk _ (at2_ow hA)) h (fun z => z)
      exact ⟨a, zs, v, rfl, rfl, h, by rw [← r.length]; exact hv, chg_fin S hA ⟨_, h, fun z => z⟩ (.l upd_same ((rep_dropLast r).ext e2 s2)) (rv.ext e2 s2) (Ext.refl _ _) q⟩
theorem rep_erase {K : PySem.W.Frag} {L : List Addr} {H : Hp} {ds : List PyData} {vs : List V} (r : RepAll K L H ds vs) (j : Nat) : RepAll K L H (ds.eraseIdx j) (vs.eraseIdx j) := by
  rw [List.eraseIdx_eq_take_drop_succ, List.eraseIdx_eq_take_drop_succ]
  exact (r.take j).append (r.drop (j + 1))
theorem e_popAt (hn : isName o = true) (ho : PE X o (tVar i)) (ha : PA X (e :: es) (tK X.K (evK F ees))) (hb : (e :: es).all (fun e => !starB e) = true) (hl : (e :: es).length < 10) (hline : (apos.endLine == cpos.line) = true) :
    PE X (.Call (.Attribute o "pop" apos) (e :: es) [] cpos) (tV X.K (ev F (.met .popAt i ees))) := by
  have hb' := hb
  rw [List.all_cons, Bool.and_eq_true] at hb'
  refine PE.imp (pe_bm PySem.F.plainAttrs_list PySem.F.slot_list_pop PySem.F.type_list_pop mt_popAt ho ha (base_of hn _) (star_few hb hl) hline (star_one (by simpa using hb'.1)) (star_none hb'.2)) fun σ H Q ⟨W, A, ρ, rr, ρ', S, he, q⟩ => ?_
  obtain ⟨a, o0, ds, ρ1, o1, d, o2, hA, hσ, h0, mo, hk, h1, h2, h3, rfl, rfl⟩ := met_start S he
  cases mo with
  | d h r => cases hk
  | l h r =>
    refine ⟨_, hσ, .inl ⟨rfl, _, .inl (.inl h)⟩, W, A, ρ, ds, ρ1, S, h1, fun vs H1 e1 S1 r1 => ?_⟩
    have mo := own_same S1 hA h2
    cases mo with
    | d h r => cases r1 <;> cases h3
    | l h r =>
      rename_i zs xs
      cases r1 with
      | nil => cases h3
      | cons r0 rs =>
        cases rs with
        | cons _ _ => rename_i dd _ _ _ _ _ _ _; cases dd <;> cases h3
        | nil =>
          rename_i dd vv
          cases dd <;> first | (cases h3; done) | skip
          rename_i m
          cases r0
          have h3 : (ixN xs.length m).bind (fun j => if xs.length ≤ lim then (xs[j]?).map fun x => (x, MO.l (xs.eraseIdx j)) else none) = some (d, o2) := h3
          obtain ⟨j, hj, h3⟩ := Option.bind_eq_some_iff.mp h3
          split at h3
          · rename_i hz
            obtain ⟨x, hx, h3⟩ := Option.map_eq_some_iff.mp h3
            cases h3
            obtain ⟨v, hv, rv⟩ := r.get hx
            obtain ⟨g1, g2, g3, g4⟩ := ixN_seq hj
            have hz' : xs.length ≤ 16777216 := hz
            obtain ⟨e2, s2⟩ := wrX (u := .lst (zs.eraseIdx j)) (W := W) (ow_Lk _ (at2_ow hA)) h (fun z => z)
            exact ⟨a, zs, m, j, v, rfl, rfl, h, by omega, by omega, by rw [← r.length]; exact g1, hv, chg_fin S1 hA ⟨_, h, fun z => z⟩ (.l upd_same ((rep_erase r j).ext e2 s2)) (rv.ext e2 s2) e1 q⟩
          · cases h3
theorem trees1 (h : starB e = false) {pos : Pos} : backTo pos (starEach [e] X.env) = [(false, eval e X.env)] := by
  rw [star_one h] <;> rfl
theorem trees2 (h : starB e = false) (h2 : starB f = false) {pos : Pos} : backTo pos (starEach [e, f] X.env) = [(false, eval e X.env), (false, eval f X.env)] := by
  rw [star_one h, star_one h2] <;> rfl
theorem allB1 (h : starB e = false) : ([e] : List Expr).all (fun e => !starB e) = true := by simp [h]
theorem allB2 (h : starB e = false) (h2 : starB f = false) : ([e, f] : List Expr).all (fun e => !starB e) = true := by simp [h, h2]
theorem e_dget (hu : X.A.units + 200 < cLine) (hn : isName o = true) (ho : PE X o (tVar i)) (he : PE X e (tV X.K (ev F ee))) (hb : starB e = false) (hline : (apos.endLine == cpos.line) = true) :
    PE X (.Call (.Attribute o "get" apos) [e] [] cpos) (tV X.K (ev F (.met .dget i (.cons ee .nil)))) := by
  refine PE.imp (pe_dget1 (by omega) ho he ⟨base_of hn _, star_few (allB1 hb) (by simp), hline, trees1 hb⟩) fun σ H Q ⟨W, A, ρ, rr, ρ', S, hev, q⟩ => ?_
  obtain ⟨a, o0, ds, ρ1, o1, d, o2, hA, hσ, h0, mo, hk, h1, h2, h3, rfl, rfl⟩ := met_start S hev
  cases mo with
  | l h r => cases hk
  | d h r =>
    refine ⟨_, hσ, a, rfl, .inl ⟨_, .inl h⟩, ?_⟩
    unfold evK at h1
    obtain ⟨⟨ra, ρa⟩, h4, h1⟩ := bnd_inv h1
    obtain ⟨x, hx, h1⟩ := bnd_inv h1
    unfold evK at h1
    cases h1
    refine tV.mk S h4 fun va H1 e1 S1 l1 => ?_
    have rx := l1.keep (ofO_inv hx)
    have mo := own_same S1 hA h2
    cases mo with
    | l h r => cases h3
    | d h r =>
      rename_i kvs ks
      have h3 : (dK x).map (fun k => (((ks.find? fun p => decide (p.1 = k)).map (·.2)).getD .none, MO.d ks)) = some (d, o2) := h3
      cases hk2 : dK x with
      | none => rw [hk2] at h3; cases h3
      | some k =>
        rw [hk2] at h3; cases h3
        have ev := key_rep rx hk2
        subst ev
        obtain ⟨S2, e2⟩ := S1.chg (i := i) (o' := .d ks) (u := .dK kvs) hA (.d upd_same (dr_ext (wrX (u := .dK kvs) (W := W) (ow_Lk _ (at2_ow hA)) h (fun z => z)).1 (wrX (u := .dK kvs) (W := W) (ow_Lk _ (at2_ow hA)) h (fun z => z)).2 r))
        have hsame : upd H1 a (.dK kvs) = H1 := by
          funext b
          by_cases y : b = a
          · subst y; rw [upd_same, h]
          · rw [upd_ne y]
        rw [hsame] at S2
        refine ⟨_, .inl ⟨kvs, k, .inl h, rfl, rfl⟩, ?_⟩
        rcases dr_find k r with ⟨d, v, z1, z2, z3⟩ | ⟨z1, z2⟩
        · rw [z2]
          simp only [z1, Option.getD_some] at q ⊢
          exact q _ _ e1 ⟨S2, z3⟩
        · rw [z2]
          simp only [z1, Option.getD_none] at q ⊢
          exact q _ _ e1 ⟨S2, .non⟩
theorem e_dpop2 (hn : isName o = true) (ho : PE X o (tVar i)) (he : PE X e (tV X.K (ev F ee))) (hf : PE X f (tV X.K (ev F ef))) (hb : starB e = false) (hb2 : starB f = false) (hline : (apos.endLine == cpos.line) = true) :
    PE X (.Call (.Attribute o "pop" apos) [e, f] [] cpos) (tV X.K (ev F (.met .dpop2 i (.cons ee (.cons ef .nil))))) := by
  refine PE.imp (pe_dpop2 ho he hf ⟨base_of hn _, star_few (allB2 hb hb2) (by simp), hline, trees2 hb hb2⟩) fun σ H Q ⟨W, A, ρ, rr, ρ', S, hev, q⟩ => ?_
  obtain ⟨a, o0, ds, ρ1, o1, d, o2, hA, hσ, h0, mo, hk, h1, h2, h3, rfl, rfl⟩ := met_start S hev
  cases mo with
  | l h r => cases hk
  | d h r =>
    refine ⟨_, hσ, a, rfl, .inl ⟨_, .inl h⟩, ?_⟩
    unfold evK at h1
    obtain ⟨⟨ra, ρa⟩, h4, h1⟩ := bnd_inv h1
    obtain ⟨x, hx, h1⟩ := bnd_inv h1
    unfold evK at h1
    obtain ⟨⟨zs, ρz⟩, h1, h1z⟩ := bnd_inv h1
    obtain ⟨⟨rb, ρb⟩, h5, h1⟩ := bnd_inv h1
    obtain ⟨y, hy, h1⟩ := bnd_inv h1
    unfold evK at h1
    cases h1
    cases h1z
    refine tV.mk S h4 fun va H1 e1 S1 l1 => tV.mk S1 h5 fun vb H2 e2 S2 l2 => ?_
    have rx := (l1.ext e2).keep (ofO_inv hx)
    have ry := l2.keep (ofO_inv hy)
    have mo := own_same S2 hA h2
    cases mo with
    | l h r => cases h3
    | d h r =>
      rename_i kvs ks
      have h3 : (dK x).map (fun k => (((ks.find? fun p => decide (p.1 = k)).map (·.2)).getD y, MO.d (ks.filter fun p => !decide (p.1 = k)))) = some (d, o2) := h3
      cases hk2 : dK x with
      | none => rw [hk2] at h3; cases h3
      | some k =>
        rw [hk2] at h3; cases h3
        have ev := key_rep rx hk2
        subst ev
        refine ⟨kvs, k, h, rfl, fun v hv => ?_, fun hv => ?_⟩
        · rcases dr_find k r with ⟨d, v', z1, z2, z3⟩ | ⟨z1, z2⟩
          · rw [z2] at hv; cases hv
            simp only [z1, Option.getD_some] at q
            obtain ⟨e3, s3⟩ := wrX (u := .dK (dropK kvs k)) (W := W) (ow_Lk _ (at2_ow hA)) h (fun z => z)
            exact chg_fin S2 hA ⟨_, h, fun z => z⟩ (.d upd_same (dr_ext e3 s3 (dr_drop k r))) (z3.ext e3 s3) (e1.trans e2) q
          · rw [z2] at hv; cases hv
        · rcases dr_find k r with ⟨d, v', z1, z2, z3⟩ | ⟨z1, z2⟩
          · rw [z2] at hv; cases hv
          · simp only [z1, Option.getD_none] at q
            rw [dr_none r hv] at q
            obtain ⟨S3, e3⟩ := S2.chg (i := i) (o' := .d ks) (u := .dK kvs) hA (.d upd_same (dr_ext (wrX (u := .dK kvs) (W := W) (ow_Lk _ (at2_ow hA)) h (fun z => z)).1 (wrX (u := .dK kvs) (W := W) (ow_Lk _ (at2_ow hA)) h (fun z => z)).2 r))
            have hsame : upd H2 a (.dK kvs) = H2 := by
              funext b
              by_cases y : b = a
              · subst y; rw [upd_same, h]
              · rw [upd_ne y]
            rw [hsame] at S3
            exact q _ _ (e1.trans e2) ⟨S3, ry⟩
end
section
variable {X : Cx} {F : Fn} {G : Gd} {a : Expr} {ea : E} {pos : Pos}
theorem rg_rep {K : PySem.W.Frag} {L : List Addr} {H : Hp} {i j : Int} : RepAll K L H (rngL i (j - i).toNat) (rgV i j) := by
  unfold rngL rgV
  exact rep_rng (fun k => i + (k : Int)) _
theorem e_lrg1 {sc : Scope} {y z : Str} {p p2 pos2 : Pos} (hs : X.env.scope = sc) (c : Ctx X F G) (hy : y = "list") (hz : z = "range") (h1 : freeB G sc y = true) (h2 : freeB G sc z = true) (ha : PE X a (tV X.K (ev F ea))) (hb : starB a = false) :
    PE X (.Call (.Name y p) [.Call (.Name z p2) [a] [] pos2] [] pos) (tV X.K (ev F (.lrg1 ea))) := by
  obtain ⟨g, m, n, d⟩ := free_of hs c h1
  obtain ⟨g2, m2, n2, d2⟩ := free_of hs c h2
  subst hy hz
  refine PE.imp (pe_listRg c.calm g m (prg_1 g2 m2 ha (star_one hb))) fun σ H Q ⟨W, A, ρ, rr, ρ', S, he, q⟩ => ?_
  unfold ev at he
  obtain ⟨⟨ra, ρ1⟩, h1, he⟩ := bnd_inv he
  obtain ⟨d, hd, he⟩ := bnd_inv he
  obtain ⟨j, hj, he⟩ := bnd_inv he
  split at he
  · rename_i sm
    cases he
    rw [Bool.and_eq_true, decide_eq_true_eq, decide_eq_true_eq] at sm
    refine tV.mk S h1 fun va H1 e1 S1 l1 => ?_
    cases asInt_of (l1.keep (ofO_inv hd)) hj
    refine ⟨_, rfl, .of_le (by omega) (by omega) (by omega) (by omega), fun p hp => ?_⟩
    have e2 := Ext.new (O := ow A) (.lst (rgV 0 j)) hp
    refine q _ _ (e1.trans e2) ⟨p, rfl, e1.dom _ hp, ?_, ?_⟩
    · exact S1.lock hp
    · have := rg_rep (K := X.K) (L := Lk { W with D := p :: W.D } A) (H := upd H1 p (.lst (rgV 0 j))) (i := 0) (j := j)
      rw [Int.sub_zero] at this
      exact .l upd_same this
  · cases he
theorem e_lrg2 {sc : Scope} {y z : Str} {p p2 pos2 : Pos} {b : Expr} {eb : E} (hs : X.env.scope = sc) (c : Ctx X F G) (hy : y = "list") (hz : z = "range") (h1 : freeB G sc y = true) (h2 : freeB G sc z = true) (ha : PE X a (tV X.K (ev F ea))) (hb : starB a = false) (ha2 : PE X b (tV X.K (ev F eb))) (hb2 : starB b = false) :
    PE X (.Call (.Name y p) [.Call (.Name z p2) [a, b] [] pos2] [] pos) (tV X.K (ev F (.lrg2 ea eb))) := by
  obtain ⟨g, m, n, d⟩ := free_of hs c h1
  obtain ⟨g2, m2, n2, d2⟩ := free_of hs c h2
  subst hy hz
  refine PE.imp (pe_listRg c.calm g m (prg_2 g2 m2 ha ha2 (star_one hb) (star_one hb2) (by rw [star_one hb2] <;> rfl))) fun σ H Q ⟨W, A, ρ, rr, ρ', S, he, q⟩ => ?_
  unfold ev at he
  obtain ⟨⟨ra, ρ1⟩, h1, he⟩ := bnd_inv he
  obtain ⟨⟨rb, ρ2⟩, h2, he⟩ := bnd_inv he
  obtain ⟨d, hd, he⟩ := bnd_inv he
  obtain ⟨i, hi, he⟩ := bnd_inv he
  obtain ⟨d2, hd2, he⟩ := bnd_inv he
  obtain ⟨j, hj, he⟩ := bnd_inv he
  split at he
  · rename_i sm
    cases he
    simp only [Bool.and_eq_true, decide_eq_true_eq] at sm
    refine tV.mk S h1 fun va H1 e1 S1 l1 => ?_
    refine tV.mk S1 h2 fun vb H2 e2 S2 l2 => ?_
    cases asInt_of (l1.keep (ofO_inv hd)) hi
    cases asInt_of (l2.keep (ofO_inv hd2)) hj
    refine ⟨_, _, rfl, rfl, .of_le (by omega) (by omega) (by omega) (by omega), fun p hp => ?_⟩
    have e3 := Ext.new (O := ow A) (.lst (rgV i j)) hp
    exact q _ _ ((e1.trans e2).trans e3) ⟨p, rfl, (e1.trans e2).dom _ hp, S2.lock hp, .l upd_same rg_rep⟩
  · cases he
theorem e_lset {sc : Scope} {y z : Str} {p p2 pos2 : Pos} (hs : X.env.scope = sc) (c : Ctx X F G) (hy : y = "len") (hz : z = "set") (h1 : freeB G sc y = true) (h2 : freeB G sc z = true) (ha : PE X a (tV X.K (ev F ea))) (hb : starB a = false) :
    PE X (.Call (.Name y p) [.Call (.Name z p2) [a] [] pos2] [] pos) (tV X.K (ev F (.lset ea))) := by
  obtain ⟨g, m, n, d⟩ := free_of hs c h1
  obtain ⟨g2, m2, n2, d2⟩ := free_of hs c h2
  subst hy hz
  refine PE.imp (pe_lset c.calm g m g2 m2 ha (star_one hb)) fun σ H Q ⟨W, A, ρ, rr, ρ', S, he, q⟩ => ?_
  unfold ev at he
  obtain ⟨⟨ra, ρ1⟩, h3, he⟩ := bnd_inv he
  obtain ⟨x, hx, he⟩ := bnd_inv he
  obtain ⟨xs, hxs, he⟩ := bnd_inv he
  obtain ⟨ns, hns, he⟩ := bnd_inv he
  split at he
  · rename_i hle
    cases he
    refine tV.mk S h3 fun va H1 e1 S1 l1 => ?_
    have t := Top.of (l1.keep (ofO_inv hx))
    replace hxs := ofO_inv hxs
    cases x <;> first | (cases hxs; done) | skip
    cases hxs
    obtain ⟨b, vs, rfl, hv, rx⟩ := t.list_inv
    obtain ⟨rfl, _⟩ := rx.ints (ofO_inv hns)
    exact ⟨b, ns, rfl, hv, hle, q _ _ e1 ⟨S1, .int _⟩⟩
  · cases he
theorem e_tupRev {sc : Scope} {y z : Str} {p p2 pos2 : Pos} (hs : X.env.scope = sc) (c : Ctx X F G) (hy : y = "tuple") (hz : z = "reversed") (h1 : freeB G sc y = true) (h2 : freeB G sc z = true) (ha : PE X a (tV X.K (ev F ea))) (hb : starB a = false) :
    PE X (.Call (.Name y p) [.Call (.Name z p2) [a] [] pos2] [] pos) (tV X.K (ev F (.prm .tupRev (.cons ea .nil)))) := by
  obtain ⟨g, m, n, d⟩ := free_of hs c h1
  obtain ⟨g2, m2, n2, d2⟩ := free_of hs c h2
  subst hy hz
  refine PE.imp (RfT.pe_tupRevA c.calm g m g2 m2 ha (star_one hb) rfl) fun σ H Q ⟨W, A, ρ, rr, ρ', S, he, q⟩ => ?_
  unfold ev at he
  obtain ⟨⟨rs, ρ1⟩, h1, he⟩ := bnd_inv he
  unfold evA at h1
  obtain ⟨⟨ra, ρa⟩, h3, h1⟩ := bnd_inv h1
  unfold evA at h1
  cases h1
  obtain ⟨ds, hd, he⟩ := bnd_inv he
  obtain ⟨r0, hr, he⟩ := bnd_inv he
  cases he
  refine tV.mk S h3 fun va H1 e1 S1 l1 => ?_
  have lk := looks S1 (.cons l1 .nil) (ofO_inv hd)
  cases lk with
  | cons t tn =>
    cases tn
    replace hr := ofO_inv hr
    rename_i x
    cases x <;> first | (simp [primD] at hr; done) | skip
    · obtain ⟨b, xs, rfl, hx, rx⟩ := t.list_inv
      have hr : some (RV.v (.tuple (List.reverse _))) = some rr := hr
      cases hr
      refine ⟨b, xs, rfl, .inl hx.sq, fun p hp => ?_⟩
      obtain ⟨p1, e2⟩ := (newT hp rx.rev).post S1 e1.dom
      exact q _ _ (e1.trans e2.nil) p1
    · obtain ⟨b, xs, rfl, hx, rx⟩ := t.tuple_inv
      have hr : some (RV.v (.tuple (List.reverse _))) = some rr := hr
      cases hr
      refine ⟨b, xs, rfl, .inr hx, fun p hp => ?_⟩
      obtain ⟨p1, e2⟩ := (newT hp rx.rev).post S1 e1.dom
      exact q _ _ (e1.trans e2.nil) p1
theorem e_dic1 {k : Str} {kk : Nat} {kp : Pos} (ha : PE X a (tV X.K (ev F ea))) : PE X (.Dict [some (.Constant (.str k) kk kp)] [a] pos) (tV X.K (ev F (.dic1 k ea))) := by
  have hk : PE X (.Constant (.str k) kk kp) (tC (.str k)) := pe_str
  refine PE.imp (pe_disp (pps_cons hk ha pps_nil) rfl rfl (by simp) (by simp)) fun σ H Q ⟨W, A, ρ, rr, ρ', S, he, q⟩ => ?_
  unfold ev at he
  obtain ⟨⟨ra, ρ1⟩, h1, he⟩ := bnd_inv he
  obtain ⟨x, hx, he⟩ := bnd_inv he
  cases he
  intro p hp
  have S0 := S.lock (u := .dK []) hp
  have nO : p ∉ ow A := fun z => S.live p (ow_Lk p z) hp
  have e0 : Ext (ow A) H (upd H p (.dK [])) := Ext.new _ hp
  refine tV.mk S0 h1 fun va H1 e1 S1 l1 => ?_
  have h1p : H1 p = some (.dK []) := e1.keep _ _ upd_same (.inl nO)
  have rx := l1.keep (ofO_inv hx)
  refine ⟨h1p, [(.inr k, va)], rfl, by simp, ?_⟩
  have em : mergeK ([] : List (Key × V)) [(.inr k, va)] = [(.inr k, va)] := rfl
  rw [em]
  have hp2 : p ∈ ({ W with D := p :: W.D } : Wd).D := List.mem_cons_self
  obtain ⟨e2, s2⟩ := wrX (u := .dK [(.inr k, va)]) (W := { W with D := p :: W.D }) (A := A) (List.mem_append_left _ hp2) h1p (fun z => z)
  have eF : Ext (ow A) H (upd H1 p (.dK [(.inr k, va)])) := by
    have z := (Ext.mono (O' := p :: ow A) (e0.trans e1) fun a h => List.mem_cons_of_mem _ h).trans (e2.mono fun a h => by rw [List.mem_singleton.mp h]; exact List.mem_cons_self)
    refine ⟨fun a o h n => z.keep a o h (n.imp (fun n w => ?_) id), z.dom⟩
    rcases List.mem_cons.mp w with w | w
    · subst w; rw [hp] at h; cases h
    · exact n w
  exact q _ _ eF ⟨p, rfl, hp, S1.wrD hp2 h1p (fun z => z) (S.ext0.dom p hp), .d upd_same (.cons ⟨rfl, rx.ext e2 s2⟩ .nil)⟩
end
end Rf

set_option Elab.async false
set_option linter.all false
set_option maxRecDepth 100000
set_option maxHeartbeats 8000000
/-! Rf12: every checked expression. -/
namespace Rf
open PySem PySem.Spec L2
section
open PyProof.Rows HT
variable {prog : Program} {w : World} {A : Around} {E : Value → Shared → Prop} {s : Shared}
theorem adjust_rev (n : Nat) : Builtin.Slice.sliceAdjust none none (-1) (n : Int) = ((n : Int) - 1, -1) := by
  unfold Builtin.Slice.sliceAdjust
  rfl
theorem places_rev (n : Nat) : Builtin.Slice.slicePlaces ((n : Int) - 1) (-1) (-1) = n := by
  unfold Builtin.Slice.slicePlaces
  have h1 : ¬ ((-1 : Int) > 0) := by omega
  simp only [h1, if_false]
  split <;> simp <;> omega
theorem sliceApplied_rev {sl : Addr} {vs : Value} {n : Nat} {Q : Int × Int × Nat → Shared → Prop} (hs : s.heap.IsSliceOf sl .none .none vs) (ps : IsPart vs (some (-1)))
    (h : Q ((n : Int) - 1, -1, n) s) : wpAny (model prog w) A (Builtin.Slice.sliceApplied (.ref sl) (pure (n : Int))) Q E s := by
  obtain ⟨os, hos, hcs, hds⟩ := id hs
  unfold Builtin.Slice.sliceApplied Builtin.Slice.sliceFields
  apply wpAny_bind
  apply wpAny_bind
  apply wpAny_field hos hds (x := .none) rfl
  apply wpAny_bind
  apply wpAny_field hos hds (x := .none) rfl
  apply wpAny_bind
  apply wpAny_field hos hds (x := vs) rfl
  apply wpAny_pure
  apply wpAny_bind
  apply slicePart_ ps
  show wpAny _ _ (if ((-1 : Int) == 0) = true then _ else _) _ _ s
  rw [if_neg (by decide)]
  apply wpAny_bind
  apply slicePart_none
  apply wpAny_bind
  apply slicePart_none
  apply wpAny_bind
  apply wpAny_pure
  show wpAny _ _ (match Builtin.Slice.sliceAdjust none none (-1) (n : Int) with | (lo, hi) => pure (lo, (-1 : Int), Builtin.Slice.slicePlaces lo hi (-1))) _ _ s
  rw [adjust_rev n]
  show wpAny _ _ (pure ((n : Int) - 1, (-1 : Int), Builtin.Slice.slicePlaces ((n : Int) - 1) (-1) (-1))) _ _ s
  rw [places_rev]
  exact wpAny_pure h
theorem pick_rev (xs : Array Value) : ((List.range xs.size).filterMap fun (m : Nat) => xs[(((xs.size : Nat) : Int) - 1 + (m : Int) * -1).toNat]?).toArray = xs.toList.reverse.toArray := by
  congr 1
  apply List.ext_getElem?
  intro i
  have e : ((List.range xs.size).filterMap fun (m : Nat) => xs[(((xs.size : Nat) : Int) - 1 + (m : Int) * -1).toNat]?) = (List.range xs.size).map fun m => xs.toList.reverse[m]?.getD .none := by
    have go : ∀ k, k ≤ xs.size → ((List.range k).filterMap fun (m : Nat) => xs[(((xs.size : Nat) : Int) - 1 + (m : Int) * -1).toNat]?) = (List.range k).map fun m => xs.toList.reverse[m]?.getD .none := fun k => by
      induction k with
      | zero => exact fun _ => rfl
      | succ k ih =>
        intro hk
        have h1 : (((xs.size : Nat) : Int) - 1 + (k : Int) * -1).toNat = xs.size - 1 - k := by omega
        have h2 : xs[(((xs.size : Nat) : Int) - 1 + (k : Int) * -1).toNat]? = some (xs.toList.reverse[k]?.getD .none) := by
          rw [h1, List.getElem?_reverse (by rw [Array.length_toList]; exact hk), Array.length_toList, Array.getElem?_toList, Array.getElem?_eq_getElem (show xs.size - 1 - k < xs.size by omega)]
          rfl
        rw [List.range_succ, List.filterMap_append, List.map_append, ih (by omega)]
        simp only [List.filterMap_cons, List.filterMap_nil, h2, List.map_cons, List.map_nil]
    exact go _ (Nat.le_refl _)
  rw [e, List.getElem?_map]
  by_cases hi : i < xs.size
  · rw [List.getElem?_range hi, Option.map_some, List.getElem?_eq_getElem (by rw [List.length_reverse, Array.length_toList]; exact hi)]
    rfl
  · rw [List.getElem?_eq_none (by rw [List.length_range]; omega), List.getElem?_eq_none (by rw [List.length_reverse, Array.length_toList]; omega)]
    rfl
theorem getItem_tuple_rev {t sl : Addr} {items : Array Value} {vs : Value} {Q : Value → Shared → Prop} (ht : IsTup s.heap t items) (hs : s.heap.IsSliceOf sl .none .none vs) (ps : IsPart vs (some (-1)))
    (h : Q (.ref s.heap.objs.size) { s with heap := s.heap.push { cls := .type "tuple", data := .seq items.toList.reverse.toArray } })
    (hsz : items.size ≤ sizeLine) : wpAny (model prog w) A (getItem (.ref t) (.ref sl)) Q E s := by
  have htake : sizeOk (.seq items.toList.reverse.toArray) := by
    show items.toList.reverse.toArray.size ≤ sizeLine
    rw [List.size_toArray, List.length_reverse, Array.length_toList]
    exact hsz
  obtain ⟨os, hos, hcs, hds⟩ := id hs
  have hTs : s.TypeIs (.ref sl) "slice" := ⟨os, hos, hcs⟩
  unfold getItem
  try with_reducible refine wpAny_holding ?_
  first | refine wpAny_bind (wpAny_pure ?_) | skip
  apply wpAny_bind
  apply wpAny_sequenceKey ht.typeIs (by decide)
  apply wpAny_bind
  refine wpAny_callSpecial?_slot (name := Str.ofString "__getitem__") ht.typeIs PyProof.Rows.slot_tuple_getitem
    (wpAny_call_entry PyProof.Rows.slot_tuple_getitem ht.typeIs entry_tuple_getitem ?_ (args_tuple_getitem _ _))
  show wpAny _ _ (Builtin.Tuple.tupleItemsOf (.ref t) >>= _) _ _ s
  apply wpAny_bind
  apply tupleItemsOf_ ht
  apply wpAny_bind
  apply wpAny_typeOf hTs
  rw [if_pos (by decide)]
  apply wpAny_bind
  apply sliceApplied_rev hs ps
  show wpAny _ _ (if ((((items.size : Nat) : Int) - 1) == 0 && (-1 : Int) == 1 && (items.size) == items.size) = true then _ else _) _ _ s
  rw [if_neg (by simp), pick_rev]
  first
    | exact wpAny_bind (m := Builtin.Tuple.tupleExact _) (wpAny_newObj_type (wpAny_pure ⟨_, rfl, wpAny_pure h⟩) htake)
    | exact wpAny_bind (wpAny_bind (m := Builtin.Tuple.tupleExact _) (wpAny_newObj_type (wpAny_pure (wpAny_pure ⟨_, rfl, wpAny_pure h⟩)) htake))
    | exact wpAny_bind (wpAny_bind (m := Builtin.Tuple.tupleExact _) (wpAny_newObj_type (wpAny_pure ⟨_, rfl, wpAny_pure h⟩) htake))
end
section
open PyProof.Rows
/-- xs[::-1], xs a list or a tuple -/
def tRevA (K : PySem.W.Frag) (te : TE) : TE := fun σ H Q => te σ H fun x H1 => ∃ (a : Addr) (xs : List V), x = .ref a ∧ ((SqL K H1 a xs ∧ ∀ p, H1 p = none → Q (.ref p) (upd H1 p (.lst xs.reverse))) ∨ (SqT K H1 a xs ∧ ∀ p, H1 p = none → Q (.ref p) (upd H1 p (.tup xs.reverse))))
theorem pe_revA {X : Cx} {e : Expr} {te : TE} {k : Nat} {p1 p2 p3 pos : Pos} (he : PE X e te) : PE X (.Subscript e (.Slice none none (some (.UnaryOp .USub (.Constant (.int 1) k p1) p2)) p3) pos) (tRevA X.K te) := by
  refine ⟨fun pins s σ H Q I h => ?_⟩
  apply Subscript_
  refine thn (he.run pins s σ H _ I h) fun v s1 ⟨x, H1, I1, r1, q1⟩ => ?_
  obtain ⟨a, xs, ex, q⟩ := q1
  subst ex
  cases r1
  have hst : PO X (some (.UnaryOp .USub (.Constant (.int 1) k p1) p2)) (tPart (tUn (rU fun i => .int (-i)) (tC (.int 1)))) := po_some (pe_un un_neg pe_int)
  apply wpAny_Slice
  refine thn (po_none.run pins s1 σ H1 (fun o H2 => o = none ∧ H2 = H1) I1 ⟨rfl, rfl⟩) fun vl s2 ⟨l, H2, I2, pl, el, e2⟩ => ?_
  subst el e2
  refine thn (po_none.run pins s2 σ H2 (fun o H3 => o = none ∧ H3 = H2) I2 ⟨rfl, rfl⟩) fun vu s3 ⟨u, H3, I3, pu, eu, e3⟩ => ?_
  subst eu e3
  refine thn (hst.run pins s3 σ H3 (fun o H4 => o = some (-1) ∧ H4 = H3) I3 ⟨1, rfl, -1, rfl, rfl, rfl⟩) fun vs s4 ⟨o, H4, I4, ps, eo, e4⟩ => ?_
  subst eo e4
  have I5 : Inv X pins σ H4 { s4 with heap := s4.heap.push { cls := .type "slice", data := .fields #[vl, vu, vs] } } := I4.kept (t' := s4.toks) fun b ob q => Heap.get?_push_of_some _ q
  show wpAny (model X.prog X.w) X.A (subscriptTail e (.Slice none none (some (.UnaryOp .USub (.Constant (.int 1) k p1) p2)) p3) (.ref a) (.ref s4.heap.objs.size)) (EP X pins σ Q) X.xe { s4 with heap := s4.heap.push { cls := .type "slice", data := .fields #[vl, vu, vs] } }
  rcases q with ⟨hx, q⟩ | ⟨hx, q⟩
  · obtain ⟨its, r, ht, hz⟩ := I5.list hx
    have hlen := r.length
    apply tail_any (ops := [.ref a, .ref s4.heap.objs.size]) ht.isList.typeIs (PySem.slot_list_getitem.lookup) _ (by with_unfolding_all rfl)
    apply wpAny_getItem_list_slice ht.isList (Heap.IsSliceOf.new _ vl vu vs) pl pu ps (by decide) _ (by rw [List.size_toArray]; omega)
    rw [PySem.W.krv_pick]
    refine ⟨.ref _, _, I5.laid (t' := s4.toks) (o := .lst xs.reverse) (fun b ob q => Heap.get?_push_of_some _ q) (Nat.le_refl _) ?_, rfl, q _ (I5.hok.fresh (Nat.le_refl _))⟩
    exact ⟨by rw [List.length_reverse]; exact hz, _, 0, r.reverse, Heap.get?_push_size _ rfl⟩
  · obtain ⟨its, r, ht, hz⟩ := I5.tuple hx
    have hlen := r.length
    cases pl
    cases pu
    apply tail_any (ops := [.ref a, .ref s4.heap.objs.size]) ht.typeIs (PyProof.Rows.slot_tuple_getitem.lookup) _ (by with_unfolding_all rfl)
    apply getItem_tuple_rev ht (Heap.IsSliceOf.new _ _ _ vs) ps _ (by rw [List.size_toArray]; omega)
    refine ⟨.ref _, _, I5.laid (t' := s4.toks) (o := .tup xs.reverse) (fun b ob q => Heap.get?_push_of_some _ q) (Nat.le_refl _) ?_, rfl, q _ (I5.hok.fresh (Nat.le_refl _))⟩
    exact ⟨by rw [List.length_reverse]; exact hz, its.reverse, r.reverse, IsTup.new _ _⟩
end

def boolB : Expr → Bool
  | .BoolOp _ _ _ => true
  | _ => false
structure Ok3 (X : Cx) (F : Fn) (e : E) (x : Expr) : Prop where
  pe : PE X x (tV X.K (ev F e))
  pt : PT X x (tB2 X.K (evB F e))
  pw : boolB x = true → PW X x (tB2 X.K (evB F e))
theorem noB {α : Prop} {b : Bool} (h : b = true) (e : b = false) : α := by rw [e] at h; cases h
section
variable {X : Cx} {F : Fn} {G : Gd} {N : List Str} {sc : Scope}
theorem Ok3.val {e : E} {x : Expr} (h : PE X x (tV X.K (ev F e))) (he : ∀ whole, isTrue x X.env whole = (do let v ← whole; standAt x.pos; holding [v] (truthy v))) (hb : boolB x = false) : Ok3 X F e x :=
  ⟨h, t_val h he, fun z => noB z hb⟩
theorem Ok3.tst {e : E} {x : Expr} (h : PE X x (tV X.K (ev F e))) (ht : PT X x (tB2 X.K (evB F e))) (hb : boolB x = false) : Ok3 X F e x := ⟨h, ht, fun z => noB z hb⟩
theorem Ok3.boo {e : E} {x : Expr} (h : PE X x (tV X.K (ev F e))) (ht : PW X x (tB2 X.K (evB F e))) : Ok3 X F e x := ⟨h, ht.pt, fun _ => ht⟩
theorem a2 {a b : Bool} (h : (a && b) = true) : a = true ∧ b = true := by rwa [Bool.and_eq_true] at h
theorem n1 {a : Bool} (h : (!a) = true) : a = false := by simpa using h
theorem beq_no {x y : Str} (h : (!(x == y)) = true) : (x == y) = false := by simpa using h
theorem nm_var {i : Nat} {x : Expr} (hX : X.N = N) (hs : X.env.scope = sc) (h : nameB N sc i x = true) : PE X x (tVar i) := by
  cases x with
  | Name y pos =>
    have h : (decide (N[i]? = some y) && visB sc y && !(y == ("__debug__" : Str)) && !(y == ("__classdict__" : Str))) = true := h
    obtain ⟨h, h4⟩ := a2 h
    obtain ⟨h, h3⟩ := a2 h
    obtain ⟨h1, h2⟩ := a2 h
    refine pe_var (by rw [hX]; exact of_decide_eq_true h1) ?_ (beq_no h3) (beq_no h4)
    rw [hs]
    unfold visB locB at h2
    rw [Bool.or_eq_true, Bool.or_eq_true, decide_eq_true_eq, decide_eq_true_eq, decide_eq_true_eq] at h2
    rcases h2 with (h2 | h2) | h2
    · exact .inl h2
    · exact .inr (.inl h2)
    · exact .inr (.inr h2)
  | _ => exact noB h rfl
theorem nm_is {i : Nat} {x : Expr} (h : nameB N sc i x = true) : isName x = true := by
  cases x with
  | Name y pos => rfl
  | _ => exact noB h rfl
theorem t_ife {c a b : Expr} {ec ea eb : E} {pos : Pos} (hc : PT X c (tB2 X.K (evB F ec))) (ha : PT X a (tB2 X.K (evB F ea))) (hb : PT X b (tB2 X.K (evB F eb))) : PT X (.IfExp c a b pos) (tB2 X.K (evB F (.ife ec ea eb))) := by
  refine ⟨fun pins s σ H Q I ⟨W, A, ρ, k0, ρ', S, he, q⟩ => ?_⟩
  have he := evB_inv he
  unfold ev at he
  obtain ⟨⟨ra, ρ1⟩, h1, he1⟩ := bnd_inv he
  obtain ⟨k, hk, he2⟩ := bnd_inv he1
  have hz := isB_inv hk
  clear he he1 hk
  subst hz
  show wpAny (model X.prog X.w) X.A (isTrue c X.env (eval c X.env) >>= fun k => if k = true then isTrue a X.env (eval a X.env) else isTrue b X.env (eval b X.env)) _ _ s
  refine wpAny_bind (thn (hc.run pins s σ H (fun k' H1 => k' = k ∧ Ext (ow A) H H1 ∧ Sim X.K W A H1 ρ1 σ) I (tB2.mk S (evB_of h1) fun H1 e1 S1 => ⟨rfl, e1, S1⟩)) fun k' s1 ⟨H1, I1, ek, e1, S1⟩ => ?_)
  subst ek
  cases k' with
  | true =>
    rw [if_pos rfl] at he2 ⊢
    exact ha.run pins s1 σ H1 Q I1 (tB2.mk S1 (evB_of he2) fun H2 e2 S2 => q H2 (e1.trans e2) S2)
  | false =>
    rw [if_neg Bool.false_ne_true] at he2 ⊢
    exact hb.run pins s1 σ H1 Q I1 (tB2.mk S1 (evB_of he2) fun H2 e2 S2 => q H2 (e1.trans e2) S2)
theorem e_glo {x : Str} {d : PyData} {pos : Pos} (c : Ctx X F G) (hs : X.env.scope = sc) (hg : glB sc x = true) (hm : (x, d) ∈ G.con) : PE X (.Name x pos) (tV X.K (ev F (.glo x d))) := by
  obtain ⟨u, v, h1, h2, h3⟩ := c.con x d hm
  obtain ⟨g, nd⟩ := gl_of hs hg
  exact e_const (d := d) (pe_glob g h1 h2 nd) (fun ρ => by unfold ev; rfl) h3
theorem e_rev {a : Expr} {ea : E} {k : Nat} {p1 p2 p3 pos : Pos} (ha : PE X a (tV X.K (ev F ea))) : PE X (.Subscript a (.Slice none none (some (.UnaryOp .USub (.Constant (.int 1) k p1) p2)) p3) pos) (tV X.K (ev F (.rev ea))) := by
  refine PE.imp (pe_revA ha) fun σ H Q ⟨W, A, ρ, rr, ρ', S, he, q⟩ => ?_
  unfold ev at he
  obtain ⟨⟨ra, ρ1⟩, h1, he⟩ := bnd_inv he
  obtain ⟨x, hx, he⟩ := bnd_inv he
  refine tV.mk S h1 fun va H1 e1 S1 l1 => ?_
  have t := l1.look S1 (ofO_inv hx)
  cases x <;> first | (cases he; done) | skip
  · rename_i xs
    have he : Res.ok (RV.m (.l xs.reverse), ρ1) = .ok (rr, ρ') := he
    cases he
    obtain ⟨b, vs, rfl, hv, rx⟩ := t.list_inv
    refine ⟨b, vs, rfl, .inl ⟨hv.sq, fun p hp => ?_⟩⟩
    obtain ⟨p1, e2⟩ := (newL hp rx.rev).post S1 e1.dom
    exact q _ _ (e1.trans e2.nil) p1
  · rename_i xs
    have he : Res.ok (RV.v (.tuple xs.reverse), ρ1) = .ok (rr, ρ') := he
    cases he
    obtain ⟨b, vs, rfl, hv, rx⟩ := t.tuple_inv
    refine ⟨b, vs, rfl, .inr ⟨hv, fun p hp => ?_⟩⟩
    obtain ⟨p1, e2⟩ := (newT hp rx.rev).post S1 e1.dom
    exact q _ _ (e1.trans e2.nil) p1
end
section
variable {F : Fn} {G : Gd} {N : List Str}
theorem ckEs_len {sc : Scope} : ∀ {es : Es} {xs : List Expr}, ckEs G N sc es xs = true → xs.length = es.len
  | .nil, [], _ => rfl
  | .cons e es, x :: xs, h => by
    have h : (ckE G N sc e x && !starB x && ckEs G N sc es xs) = true := h
    show xs.length + 1 = es.len + 1
    rw [ckEs_len (a2 h).2]
  | .nil, _ :: _, h => noB h rfl
  | .cons _ _, [], h => noB h rfl
theorem ckEs_star {sc : Scope} : ∀ {es : Es} {xs : List Expr}, ckEs G N sc es xs = true → xs.all (fun e => !starB e) = true
  | .nil, [], _ => rfl
  | .cons e es, x :: xs, h => by
    have h : (ckE G N sc e x && !starB x && ckEs G N sc es xs) = true := h
    rw [List.all_cons, ckEs_star (a2 h).2, (a2 (a2 h).1).2] <;> rfl
  | .nil, _ :: _, h => noB h rfl
  | .cons _ _, [], h => noB h rfl
/-- a checked expression in any context of its scope -/
def AllE (F : Fn) (G : Gd) (N : List Str) (e : E) : Prop := ∀ (sc : Scope) (x : Expr) (X : Cx), Ctx X F G → X.N = N → X.env.scope = sc → ckE G N sc e x = true → Ok3 X F e x
def AllEs (F : Fn) (G : Gd) (N : List Str) (es : Es) : Prop := ∀ (sc : Scope) (xs : List Expr) (X : Cx), Ctx X F G → X.N = N → X.env.scope = sc → ckEs G N sc es xs = true → PA X xs (tK X.K (evK F es)) ∧ PA X xs (tA X.K (evA F es))
def AllO (F : Fn) (G : Gd) (N : List Str) (o : Oe) : Prop := ∀ (sc : Scope) (X : Cx), Ctx X F G → X.N = N → X.env.scope = sc → (∀ x, ckO G N sc o x = true → PO X x (tO2 X.K (evO F o))) ∧ ∀ xs, ckC G N sc o xs = true → PTs X xs (tB2 X.K (evC F o))
def AllI (F : Fn) (G : Gd) (N : List Str) (i : It) : Prop := ∀ (sc : Scope) (x tg : Expr) (X : Cx), Ctx X F G → X.N = N → X.env.scope = sc → ckI G N sc i x = true → PI X tg x (tI X.K (evI F i))
theorem ok_nil : AllEs F G N .nil := fun sc xs X c hX hs h => by
  cases xs with
  | nil => exact ⟨k_nil, a_nil⟩
  | cons x xs => exact noB h rfl
theorem ok_cons {e : E} {es : Es} (h1 : AllE F G N e) (h2 : AllEs F G N es) : AllEs F G N (.cons e es) := fun sc xs X c hX hs h => by
  cases xs with
  | nil => exact noB h rfl
  | cons x xs =>
    have h : (ckE G N sc e x && !starB x && ckEs G N sc es xs) = true := h
    obtain ⟨h, h5⟩ := a2 h
    obtain ⟨h3, h4⟩ := a2 h
    have i1 := h1 sc x X c hX hs h3
    have i2 := h2 sc xs X c hX hs h5
    exact ⟨k_cons i1.pe i2.1 (n1 h4), a_cons i1.pe i2.2 (n1 h4)⟩
theorem ok_onone : AllO F G N .none := fun sc X c hX hs => by
  refine ⟨fun x h => ?_, fun xs h => ?_⟩
  · cases x with
    | none => exact o_none
    | some x => exact noB h rfl
  · cases xs with
    | nil => exact c_none
    | cons x xs => exact noB h rfl
theorem ok_osome {e : E} (h1 : AllE F G N e) : AllO F G N (.some e) := fun sc X c hX hs => by
  refine ⟨fun x h => ?_, fun xs h => ?_⟩
  · cases x with
    | none => exact noB h rfl
    | some x => exact o_some (h1 sc x X c hX hs h).pe
  · cases xs with
    | nil => exact noB h rfl
    | cons x xs =>
      cases xs with
      | nil => exact c_some (h1 sc x X c hX hs h).pt
      | cons y xs => exact noB h rfl
theorem ok_ie {e : E} (h1 : AllE F G N e) : AllI F G N (.e e) := fun sc x tg X c hX hs h => i_e (h1 sc x X c hX hs h).pe
theorem ok_r1 {a : E} (ha : AllE F G N a) : AllI F G N (.r1 a) := fun sc x tg X c hX hs h => by
  unfold ckI at h
  split at h <;> first | (rename_i hh; cases hh; done) | skip
  · rename_i hh; cases hh
    simp only [Bool.and_eq_true, decide_eq_true_eq, Bool.not_eq_true'] at h
    obtain ⟨⟨⟨h1, h2⟩, h3⟩, h4⟩ := h
    subst h1
    obtain ⟨g, m, n, d⟩ := free_of hs c h2
    exact i_r1 g m (ha sc _ X c hX hs h3).pe h4
  · cases h
theorem ok_r2 {a b : E} (ha : AllE F G N a) (hb : AllE F G N b) : AllI F G N (.r2 a b) := fun sc x tg X c hX hs h => by
  unfold ckI at h
  split at h <;> first | (rename_i hh; cases hh; done) | skip
  · rename_i hh; cases hh
    simp only [Bool.and_eq_true, decide_eq_true_eq, Bool.not_eq_true'] at h
    obtain ⟨⟨⟨⟨⟨h1, h2⟩, h3⟩, h4⟩, h5⟩, h6⟩ := h
    subst h1
    obtain ⟨g, m, n, d⟩ := free_of hs c h2
    exact i_r2 g m (ha sc _ X c hX hs h3).pe (hb sc _ X c hX hs h5).pe h4 h6
  · cases h
theorem ok_r3 {a b e : E} (ha : AllE F G N a) (hb : AllE F G N b) (he : AllE F G N e) : AllI F G N (.r3 a b e) := fun sc x tg X c hX hs h => by
  unfold ckI at h
  split at h <;> first | (rename_i hh; cases hh; done) | skip
  · rename_i hh; cases hh
    simp only [Bool.and_eq_true, decide_eq_true_eq, Bool.not_eq_true'] at h
    obtain ⟨⟨⟨⟨⟨⟨⟨h1, h2⟩, h3⟩, h4⟩, h5⟩, h6⟩, h7⟩, h8⟩ := h
    subst h1
    obtain ⟨g, m, n, d⟩ := free_of hs c h2
    exact i_r3 g m (ha sc _ X c hX hs h3).pe (hb sc _ X c hX hs h5).pe (he sc _ X c hX hs h7).pe h4 h6 h8
  · cases h
end
end Rf

set_option Elab.async false
set_option linter.all false
set_option maxRecDepth 100000
set_option maxHeartbeats 8000000
/-! Rf13: every checked expression, constructor by constructor. -/
namespace Rf
open PySem PySem.Spec L2
section
variable {F : Fn} {G : Gd} {N : List Str}
theorem a3 {a b : Prop} {x y : Bool} (h : (x && y) = true) (f : x = true → a) (g : y = true → b) : a ∧ b := ⟨f (a2 h).1, g (a2 h).2⟩
theorem dx {p : Prop} [Decidable p] (h : decide p = true) : p := of_decide_eq_true h

theorem ok_var (i : Nat) : AllE F G N (.var i) := fun sc x X c hX hs h => by
  have h : nameB N sc i x = true := by
    cases x <;> exact h
  cases x with
  | Name y pos => exact .val (e_var (nm_var hX hs h)) (fun _ => rfl) rfl
  | _ => exact noB h rfl
theorem ok_non : AllE F G N .non := fun sc x X c hX hs h => by
  cases x with
  | Constant k j pos =>
    cases k with
    | none => exact .val (e_const (d := .none) pe_non (fun ρ => by unfold ev; rfl) fun L H => .non) (fun _ => rfl) rfl
    | _ => exact noB h rfl
  | _ => exact noB h rfl
theorem ok_bl (b : Bool) : AllE F G N (.bl b) := fun sc x X c hX hs h => by
  cases x with
  | Constant k j pos =>
    cases k with
    | bool d =>
      have h : (b == d) = true := h
      cases eq_of_beq h
      exact .val (e_const (d := .bool b) pe_bl (fun ρ => by unfold ev; rfl) fun L H => .bl b) (fun _ => rfl) rfl
    | _ => exact noB h rfl
  | _ => exact noB h rfl
theorem ok_int (b : Int) : AllE F G N (.int b) := fun sc x X c hX hs h => by
  cases x with
  | Constant k j pos =>
    cases k with
    | int d =>
      cases dx h
      exact .val (e_const (d := .int b) pe_int (fun ρ => by unfold ev; rfl) fun L H => .int b) (fun _ => rfl) rfl
    | _ => exact noB h rfl
  | _ => exact noB h rfl
theorem ok_str (b : Str) : AllE F G N (.str b) := fun sc x X c hX hs h => by
  cases x with
  | Constant k j pos =>
    cases k with
    | str d =>
      cases dx h
      exact .val (e_const (d := .str b) pe_str (fun ρ => by unfold ev; rfl) fun L H => .str b) (fun _ => rfl) rfl
    | _ => exact noB h rfl
  | _ => exact noB h rfl
theorem ok_glo (y : Str) (d : PyData) : AllE F G N (.glo y d) := fun sc x X c hX hs h => by
  cases x with
  | Name z pos =>
    have h : (decide (y = z) && glB sc z && G.con.any fun p => decide (p.1 = y) && PyData.beqD p.2 d) = true := h
    obtain ⟨h, h3⟩ := a2 h
    obtain ⟨h1, h2⟩ := a2 h
    cases dx h1
    obtain ⟨p, hp, hq⟩ := List.any_eq_true.mp h3
    obtain ⟨q1, q2⟩ := a2 hq
    have e1 := dx q1
    have e2 := PyData.beqD_eq q2
    obtain ⟨p1, p2⟩ := p
    subst e1 e2
    exact .val (e_glo c hs h2 hp) (fun _ => rfl) rfl
  | _ => exact noB h rfl
theorem ok_tup {es : Es} (i : AllEs F G N es) : AllE F G N (.tup es) := fun sc x X c hX hs h => by
  cases x with
  | Tuple xs k pos => exact .val (e_tup (i sc xs X c hX hs h).1) (fun _ => rfl) rfl
  | _ => exact noB h rfl
theorem ok_lst {es : Es} (i : AllEs F G N es) : AllE F G N (.lst es) := fun sc x X c hX hs h => by
  cases x with
  | List xs pos => exact .val (e_lst (i sc xs X c hX hs h).1) (fun _ => rfl) rfl
  | _ => exact noB h rfl
theorem ok_dic0 : AllE F G N .dic0 := fun sc x X c hX hs h => by
  cases x with
  | Dict ks vs pos =>
    cases ks with
    | nil =>
      cases vs with
      | nil => exact .val e_dic0 (fun _ => rfl) rfl
      | cons _ _ => exact noB h rfl
    | cons _ _ => exact noB h rfl
  | _ => exact noB h rfl
theorem ok_dic1 {k : Str} {e : E} (i : AllE F G N e) : AllE F G N (.dic1 k e) := fun sc x X c hX hs h => by
  unfold ckE at h
  split at h <;> first | (rename_i hh; cases hh; done) | (rename_i hh _; cases hh; done) | skip
  · rename_i hh; cases hh
    obtain ⟨h1, h2⟩ := a2 h
    cases dx h1
    exact .val (e_dic1 (i sc _ X c hX hs h2).pe) (fun _ => rfl) rfl
  · cases h
theorem ok_bin {op : Bo} {a b : E} (ia : AllE F G N a) (ib : AllE F G N b) : AllE F G N (.bin op a b) := fun sc x X c hX hs h => by
  cases x with
  | BinOp x o y pos =>
    have h : (decide (o = op.py) && ckE G N sc a x && ckE G N sc b y) = true := h
    obtain ⟨h, h3⟩ := a2 h
    obtain ⟨h1, h2⟩ := a2 h
    cases dx h1
    exact .val (e_bin (ia sc x X c hX hs h2).pe (ib sc y X c hX hs h3).pe) (fun _ => rfl) rfl
  | _ => exact noB h rfl
theorem ok_neg {a : E} (ia : AllE F G N a) : AllE F G N (.neg a) := fun sc x X c hX hs h => by
  cases x with
  | UnaryOp o x pos =>
    cases o with
    | USub => exact .val (e_neg (ia sc x X c hX hs h).pe) (fun _ => rfl) rfl
    | _ => exact noB h rfl
  | _ => exact noB h rfl
theorem ok_not {a : E} (ia : AllE F G N a) : AllE F G N (.not a) := fun sc x X c hX hs h => by
  cases x with
  | UnaryOp o x pos =>
    cases o with
    | Not => exact .tst (e_not (ia sc x X c hX hs h).pe) (t_not (ia sc x X c hX hs h).pt) rfl
    | _ => exact noB h rfl
  | _ => exact noB h rfl
theorem ok_and {a b : E} (ia : AllE F G N a) (ib : AllE F G N b) : AllE F G N (.and a b) := fun sc x X c hX hs h => by
  cases x with
  | BoolOp o xs pos =>
    cases o with
    | Or => exact noB h rfl
    | And =>
      cases xs with
      | nil => exact noB h rfl
      | cons x xs =>
        cases xs with
        | nil => exact noB h rfl
        | cons y xs =>
          cases xs with
          | nil =>
            obtain ⟨h1, h2⟩ := a2 (show (ckE G N sc a x && ckE G N sc b y) = true from h)
            have i1 := ia sc x X c hX hs h1
            have i2 := ib sc y X c hX hs h2
            exact .boo (e_and i1.pe (pe_one i2.pe)) (w_and i1.pt (w_and1 i2.pt))
          | cons z r =>
            obtain ⟨h1, h2⟩ := a2 (show (ckE G N sc a x && ckE G N sc b (.BoolOp .And (y :: z :: r) pos)) = true from h)
            have i1 := ia sc x X c hX hs h1
            have i2 := ib sc _ X c hX hs h2
            exact .boo (e_and i1.pe i2.pe) (w_and i1.pt (i2.pw rfl))
  | _ => exact noB h rfl
theorem ok_or {a b : E} (ia : AllE F G N a) (ib : AllE F G N b) : AllE F G N (.or a b) := fun sc x X c hX hs h => by
  cases x with
  | BoolOp o xs pos =>
    cases o with
    | And => exact noB h rfl
    | Or =>
      cases xs with
      | nil => exact noB h rfl
      | cons x xs =>
        cases xs with
        | nil => exact noB h rfl
        | cons y xs =>
          cases xs with
          | nil =>
            obtain ⟨h1, h2⟩ := a2 (show (ckE G N sc a x && ckE G N sc b y) = true from h)
            have i1 := ia sc x X c hX hs h1
            have i2 := ib sc y X c hX hs h2
            exact .boo (e_or i1.pe (pe_one i2.pe)) (w_or i1.pt (w_or1 i2.pt))
          | cons z r =>
            obtain ⟨h1, h2⟩ := a2 (show (ckE G N sc a x && ckE G N sc b (.BoolOp .Or (y :: z :: r) pos)) = true from h)
            have i1 := ia sc x X c hX hs h1
            have i2 := ib sc _ X c hX hs h2
            exact .boo (e_or i1.pe i2.pe) (w_or i1.pt (i2.pw rfl))
  | _ => exact noB h rfl
theorem ok_ife {e a b : E} (ie : AllE F G N e) (ia : AllE F G N a) (ib : AllE F G N b) : AllE F G N (.ife e a b) := fun sc x X c hX hs h => by
  cases x with
  | IfExp x y z pos =>
    have h : (ckE G N sc e x && ckE G N sc a y && ckE G N sc b z) = true := h
    obtain ⟨h, h3⟩ := a2 h
    obtain ⟨h1, h2⟩ := a2 h
    have i1 := ie sc x X c hX hs h1
    have i2 := ia sc y X c hX hs h2
    have i3 := ib sc z X c hX hs h3
    exact .tst (e_ife i1.pt i2.pe i3.pe) (t_ife i1.pt i2.pt i3.pt) rfl
  | _ => exact noB h rfl
theorem ok_cmp {op : Co} {a b : E} (ia : AllE F G N a) (ib : AllE F G N b) : AllE F G N (.cmp op a b) := fun sc x X c hX hs h => by
  unfold ckE at h
  split at h <;> first | (rename_i hh; cases hh; done) | (rename_i hh _; cases hh; done) | skip
  · rename_i hh; cases hh
    obtain ⟨h, h4⟩ := a2 h
    obtain ⟨h, h3⟩ := a2 h
    obtain ⟨h1, h2⟩ := a2 h
    cases dx h1
    have i1 := (ia sc _ X c hX hs h2).pe
    have i2 := (ib sc _ X c hX hs h3).pe
    exact .tst (e_cmp c.units i1 i2 (n1 h4)) (t_cmp c.units i1 i2 (n1 h4)) rfl
  · cases h
theorem ok_chn {op op2 : Co} {a b e : E} (ia : AllE F G N a) (ib : AllE F G N b) (ie : AllE F G N e) : AllE F G N (.chn op op2 a b e) := fun sc x X c hX hs h => by
  unfold ckE at h
  split at h <;> first | (rename_i hh; cases hh; done) | (rename_i hh _; cases hh; done) | skip
  · rename_i hh; cases hh
    obtain ⟨h, h6⟩ := a2 h
    obtain ⟨h, h5⟩ := a2 h
    obtain ⟨h, h4⟩ := a2 h
    obtain ⟨h, h3⟩ := a2 h
    obtain ⟨h1, h2⟩ := a2 h
    cases dx h1
    cases dx h2
    have i1 := (ia sc _ X c hX hs h3).pe
    have i2 := (ib sc _ X c hX hs h4).pe
    have i3 := (ie sc _ X c hX hs h5).pe
    exact .tst (e_chn c.units i1 i2 i3 (n1 h6)) (t_chn c.units i1 i2 i3 (n1 h6)) rfl
  · cases h
theorem ok_isn {a : E} (ia : AllE F G N a) : AllE F G N (.isn a) := fun sc x X c hX hs h => by
  unfold ckE at h
  split at h <;> first | (rename_i hh; cases hh; done) | (rename_i hh _; cases hh; done) | skip
  · rename_i hh; cases hh
    have i1 := (ia sc _ X c hX hs h).pe
    exact .tst (e_isn i1) (t_isn i1) rfl
  · cases h
theorem ok_nis {a : E} (ia : AllE F G N a) : AllE F G N (.nis a) := fun sc x X c hX hs h => by
  unfold ckE at h
  split at h <;> first | (rename_i hh; cases hh; done) | (rename_i hh _; cases hh; done) | skip
  · rename_i hh; cases hh
    have i1 := (ia sc _ X c hX hs h).pe
    exact .tst (e_nis i1) (t_nis i1) rfl
  · cases h
theorem plain_of {e : Expr} (h : sliceB e = false) : PlainIx e := by
  cases e <;> first | (exact fun _ _ => rfl) | cases h
theorem ok_idx {a b : E} (ia : AllE F G N a) (ib : AllE F G N b) : AllE F G N (.idx a b) := fun sc x X c hX hs h => by
  cases x with
  | Subscript x y pos =>
    have h : (ckE G N sc a x && ckE G N sc b y && !sliceB y) = true := h
    obtain ⟨h, h3⟩ := a2 h
    obtain ⟨h1, h2⟩ := a2 h
    exact .val (e_idx c.units (ia sc x X c hX hs h1).pe (ib sc y X c hX hs h2).pe (plain_of (n1 h3))) (fun _ => rfl) rfl
  | _ => exact noB h rfl
theorem ok_slc {a : E} {l u : Oe} (ia : AllE F G N a) (il : AllO F G N l) (iu : AllO F G N u) : AllE F G N (.slc a l u) := fun sc x X c hX hs h => by
  unfold ckE at h
  split at h <;> first | (rename_i hh; cases hh; done) | (rename_i hh _; cases hh; done) | skip
  · rename_i hh; cases hh
    obtain ⟨h, h3⟩ := a2 h
    obtain ⟨h1, h2⟩ := a2 h
    exact .val (e_slc (ia sc _ X c hX hs h1).pe ((il sc X c hX hs).1 _ h2) ((iu sc X c hX hs).1 _ h3)) (fun _ => rfl) rfl
  · cases h
theorem ok_rev {a : E} (ia : AllE F G N a) : AllE F G N (.rev a) := fun sc x X c hX hs h => by
  unfold ckE at h
  split at h <;> first | (rename_i hh; cases hh; done) | (rename_i hh _; cases hh; done) | skip
  · rename_i hh; cases hh
    obtain ⟨h1, h2⟩ := a2 h
    cases dx h1
    exact .val (e_rev (ia sc _ X c hX hs h2).pe) (fun _ => rfl) rfl
  · cases h
theorem ok_call (fit : FnFit F) {f : Nat} {y : Str} {es : Es} (i : AllEs F G N es) : AllE F G N (.call f y es) := fun sc x X c hX hs h => by
  unfold ckE at h
  split at h <;> first | (rename_i hh; cases hh; done) | (rename_i hh _; cases hh; done) | skip
  · rename_i hh; cases hh
    obtain ⟨h, h4⟩ := a2 h
    obtain ⟨h, h3⟩ := a2 h
    obtain ⟨h1, h2⟩ := a2 h
    cases dx h1
    exact .val (e_call hs c fit h2 (dx h3) (i sc _ X c hX hs h4).2 (ckEs_star h4) (ckEs_len h4)) (fun _ => rfl) rfl
  · cases h
theorem ok_fn (g : Nat) (y : Str) : AllE F G N (.fn g y) := fun sc x X c hX hs h => by
  unfold ckE at h
  split at h <;> first | (rename_i hh; cases hh; done) | (rename_i hh _; cases hh; done) | skip
  · rename_i hh; cases hh
    obtain ⟨h, h3⟩ := a2 h
    obtain ⟨h1, h2⟩ := a2 h
    cases dx h1
    exact .val (e_fn c hs h2 (dx h3)) (fun _ => rfl) rfl
  · cases h
theorem ok_cal (fit : FnFit F) {j : Nat} {fs : List (Nat × Str)} {es : Es} (i : AllEs F G N es) : AllE F G N (.cal j fs es) := fun sc x X c hX hs h => by
  unfold ckE at h
  split at h <;> first | (rename_i hh; cases hh; done) | (rename_i hh _; cases hh; done) | skip
  · rename_i hh; cases hh
    obtain ⟨h, h3⟩ := a2 h
    obtain ⟨h1, h2⟩ := a2 h
    exact .val (e_cal c fit (nm_var hX hs h1) (fun q hq => dx (List.all_eq_true.mp h2 q hq)) (i sc _ X c hX hs h3).2 (ckEs_star h3)) (fun _ => rfl) rfl
  · cases h
theorem prm_gen {p : Pm} {es : Es} (hp : p ≠ .tupRev) (i : AllEs F G N es) {sc : Scope} {X : Cx} (c : Ctx X F G) (hX : X.N = N) (hs : X.env.scope = sc) {y : Str} {x : Expr} {xs : List Expr} {p1 pos : Pos}
    (h : (decide (y = p.nm) && freeB G sc y && ckEs G N sc es (x :: xs)) = true) : Ok3 X F (.prm p es) (.Call (.Name y p1) (x :: xs) [] pos) := by
  obtain ⟨h, h3⟩ := a2 h
  obtain ⟨h1, h2⟩ := a2 h
  exact .val (e_prm (i sc _ X c hX hs h3).2 (ckEs_star h3) fun t ht => prm_call hs c hp (dx h1) h2 (ckEs_star h3) t ht) (fun _ => rfl) rfl
theorem ok_prm {p : Pm} {es : Es} (i : AllEs F G N es) (ih : ∀ a, es = .cons a .nil → AllE F G N a) : AllE F G N (.prm p es) := fun sc x X c hX hs h => by
  by_cases hp : p = .tupRev
  · subst hp
    unfold ckE at h
    split at h <;> first | (rename_i hh; cases hh; done) | (rename_i hh _; cases hh; done) | skip
    · rename_i hh; cases hh
      simp only [Bool.and_eq_true, decide_eq_true_eq, Bool.not_eq_true'] at h
      obtain ⟨⟨⟨⟨⟨h1, h2⟩, h3⟩, h4⟩, h5⟩, h6⟩ := h
      exact .val (e_tupRev hs c h1 h2 h3 h4 (ih _ rfl sc _ X c hX hs h5).pe h6) (fun _ => rfl) rfl
    all_goals first | (cases h; done) | (rename_i n hh; cases hh; exact absurd rfl n)
  · unfold ckE at h
    split at h <;> first | (rename_i hh; cases hh; done) | (rename_i hh _; cases hh; done) | skip
    all_goals first
      | (rename_i hh; cases hh; exact absurd rfl hp)
      | (rename_i hh; cases hh; exact prm_gen hp i c hX hs h)
      | (cases h; done)
theorem ok_isi {a : E} {t : Ty} (ia : AllE F G N a) : AllE F G N (.isi a t) := fun sc x X c hX hs h => by
  unfold ckE at h
  split at h <;> first | (rename_i hh; cases hh; done) | (rename_i hh _; cases hh; done) | skip
  · rename_i hh; cases hh
    simp only [Bool.and_eq_true, decide_eq_true_eq, Bool.not_eq_true'] at h
    obtain ⟨⟨⟨⟨⟨h1, h2⟩, h3⟩, h4⟩, h5⟩, h6⟩ := h
    exact .val (e_isi hs c h1 h2 h5 h6 (ia sc _ X c hX hs h3).pe h4) (fun _ => rfl) rfl
  · cases h
theorem evK_one {F : Fn} : True := trivial
theorem len0 {es : Es} (h : es.len = 0) : es = .nil := by
  cases es with
  | nil => rfl
  | cons _ _ => cases h
theorem len1 {es : Es} (h : es.len = 1) : ∃ a, es = .cons a .nil := by
  cases es with
  | nil => cases h
  | cons a r =>
    have : r.len = 0 := by
      have h : r.len + 1 = 1 := h
      omega
    rw [len0 this]
    exact ⟨a, rfl⟩
theorem len2 {es : Es} (h : es.len = 2) : ∃ a b, es = .cons a (.cons b .nil) := by
  cases es with
  | nil => cases h
  | cons a r =>
    have : r.len = 1 := by
      have h : r.len + 1 = 2 := h
      omega
    obtain ⟨b, e⟩ := len1 this
    rw [e]
    exact ⟨a, b, rfl⟩
theorem ok_met {m : Mt} {k : Nat} {es : Es} (i : AllEs F G N es) (ih : ∀ a r, es = .cons a r → AllE F G N a ∧ ∀ b r2, r = .cons b r2 → AllE F G N b) : AllE F G N (.met m k es) := fun sc x X c hX hs h => by
  unfold ckE at h
  split at h <;> first | (rename_i hh; cases hh; done) | (rename_i hh _; cases hh; done) | skip
  · rename_i hh; cases hh
    rename_i o y apos xs cpos
    obtain ⟨h, h6⟩ := a2 h
    obtain ⟨h, h5⟩ := a2 h
    obtain ⟨h, h4⟩ := a2 h
    obtain ⟨h, h3⟩ := a2 h
    obtain ⟨h1, h2⟩ := a2 h
    have hn := dx h1
    subst hn
    have hl := ckEs_len h3
    have hst := ckEs_star h3
    have har := dx h6
    have ho := nm_var hX hs h2
    have hi := nm_is h2
    rw [har] at hl
    refine .val ?_ (fun _ => rfl) rfl
    cases m with
    | append =>
      cases xs with
      | nil => cases hl
      | cons e r => exact e_append hi ho (i sc _ X c hX hs h3).1 hst (dx h5) h4
    | extend =>
      cases xs with
      | nil => cases hl
      | cons e r => exact e_extend hi ho (i sc _ X c hX hs h3).1 hst (dx h5) h4
    | pop0 =>
      cases xs with
      | nil =>
        cases len0 har
        exact e_pop0 hi ho h4
      | cons e r => cases hl
    | dget =>
      obtain ⟨a, rfl⟩ := len1 har
      cases xs with
      | nil => cases hl
      | cons e r =>
        cases r with
        | cons _ _ => cases hl
        | nil =>
          obtain ⟨z1, _⟩ := a2 (show (ckE G N sc a e && !starB e && ckEs G N sc .nil []) = true from h3)
          obtain ⟨z1, z2⟩ := a2 z1
          exact e_dget c.units hi ho ((ih _ _ rfl).1 sc e X c hX hs z1).pe (n1 z2) h4
    | popAt =>
      cases xs with
      | nil => cases hl
      | cons e r => exact e_popAt hi ho (i sc _ X c hX hs h3).1 hst (dx h5) h4
    | dget2 => exact absurd (dx h5) (by rw [hl]; decide)
    | dpop2 =>
      obtain ⟨a, b, rfl⟩ := len2 har
      cases xs with
      | nil => cases hl
      | cons e r =>
        cases r with
        | nil => cases hl
        | cons f r =>
          cases r with
          | cons _ _ => cases hl
          | nil =>
            obtain ⟨z1, z3⟩ := a2 (show (ckE G N sc a e && !starB e && (ckE G N sc b f && !starB f && ckEs G N sc .nil [])) = true from h3)
            obtain ⟨z1, z2⟩ := a2 z1
            obtain ⟨z3, _⟩ := a2 z3
            obtain ⟨z3, z4⟩ := a2 z3
            exact e_dpop2 hi ho ((ih _ _ rfl).1 sc e X c hX hs z1).pe (((ih _ _ rfl).2 _ _ rfl) sc f X c hX hs z3).pe (n1 z2) (n1 z4) h4
  · cases h
theorem ok_comp {own : List Nat} {elt : E} {tg : Tg} {it : It} {co : Oe} (ie : AllE F G N elt) (ii : AllI F G N it) (ic : AllO F G N co) : AllE F G N (.comp own elt tg it co) := fun sc x X c hX hs h => by
  unfold ckE at h
  split at h <;> first | (rename_i hh; cases hh; done) | (rename_i hh _; cases hh; done) | skip
  · rename_i hh; cases hh
    obtain ⟨h, h8⟩ := a2 h
    obtain ⟨h, h7⟩ := a2 h
    obtain ⟨h, h6⟩ := a2 h
    obtain ⟨h, h5⟩ := a2 h
    obtain ⟨h, h4⟩ := a2 h
    obtain ⟨h, h3⟩ := a2 h
    obtain ⟨h1, h2⟩ := a2 h
    exact .val (e_comp c hX hs h1 h2 h3 (n1 h4) h5 (ii sc _ _ X c hX hs h6) (fun X' c' n' k' s' => (ic _ X' c' (n'.trans hX) s').2 _ h7) fun X' c' n' k' s' => (ie _ _ X' c' (n'.trans hX) s' h8).pe) (fun _ => rfl) rfl
  · cases h
theorem ok_lset {a : E} (ia : AllE F G N a) : AllE F G N (.lset a) := fun sc x X c hX hs h => by
  unfold ckE at h
  split at h <;> first | (rename_i hh; cases hh; done) | (rename_i hh _; cases hh; done) | skip
  · rename_i hh; cases hh
    obtain ⟨h, h6⟩ := a2 h
    obtain ⟨h, h5⟩ := a2 h
    obtain ⟨h, h4⟩ := a2 h
    obtain ⟨h, h3⟩ := a2 h
    obtain ⟨h1, h2⟩ := a2 h
    exact .val (e_lset hs c (dx h1) (dx h2) h3 h4 (ia sc _ X c hX hs h5).pe (n1 h6)) (fun _ => rfl) rfl
  · cases h
theorem ok_lrg1 {a : E} (ia : AllE F G N a) : AllE F G N (.lrg1 a) := fun sc x X c hX hs h => by
  unfold ckE at h
  split at h <;> first | (rename_i hh; cases hh; done) | (rename_i hh _; cases hh; done) | skip
  · rename_i hh; cases hh
    obtain ⟨h, h6⟩ := a2 h
    obtain ⟨h, h5⟩ := a2 h
    obtain ⟨h, h4⟩ := a2 h
    obtain ⟨h, h3⟩ := a2 h
    obtain ⟨h1, h2⟩ := a2 h
    exact .val (e_lrg1 hs c (dx h1) (dx h2) h3 h4 (ia sc _ X c hX hs h5).pe (n1 h6)) (fun _ => rfl) rfl
  · cases h
theorem ok_lrg2 {a b : E} (ia : AllE F G N a) (ib : AllE F G N b) : AllE F G N (.lrg2 a b) := fun sc x X c hX hs h => by
  unfold ckE at h
  split at h <;> first | (rename_i hh; cases hh; done) | (rename_i hh _; cases hh; done) | skip
  · rename_i hh; cases hh
    obtain ⟨h, h8⟩ := a2 h
    obtain ⟨h, h7⟩ := a2 h
    obtain ⟨h, h6⟩ := a2 h
    obtain ⟨h, h5⟩ := a2 h
    obtain ⟨h, h4⟩ := a2 h
    obtain ⟨h, h3⟩ := a2 h
    obtain ⟨h1, h2⟩ := a2 h
    exact .val (e_lrg2 hs c (dx h1) (dx h2) h3 h4 (ia sc _ X c hX hs h5).pe (n1 h6) (ib sc _ X c hX hs h7).pe (n1 h8)) (fun _ => rfl) rfl
  · cases h
theorem ok_rpl {a b : E} (ia : AllE F G N a) (ib : AllE F G N b) : AllE F G N (.rpl a b) := fun sc x X c hX hs h => by
  unfold ckE at h
  split at h <;> first | (rename_i hh; cases hh; done) | (rename_i hh _; cases hh; done) | skip
  · rename_i hh; cases hh
    obtain ⟨h, h3⟩ := a2 h
    obtain ⟨h1, h2⟩ := a2 h
    cases dx h1
    exact .val (e_rpl (ia sc _ X c hX hs h2).pe (ib sc _ X c hX hs h3).pe) (fun _ => rfl) rfl
  · cases h
theorem ok_comp2 {own own1 : List Nat} {elt : E} {tg tg1 : Tg} {it it1 : It} {co co1 : Oe} (ie : AllE F G N elt) (ii : AllI F G N it) (ic : AllO F G N co) (ii1 : AllI F G N it1) (ic1 : AllO F G N co1) : AllE F G N (.comp2 own own1 elt tg it co tg1 it1 co1) := fun sc x X c hX hs h => by
  unfold ckE at h
  split at h <;> first | (rename_i hh; cases hh; done) | (rename_i hh _; cases hh; done) | skip
  · rename_i hh; cases hh
    obtain ⟨h, h8⟩ := a2 h
    obtain ⟨h, h7⟩ := a2 h
    obtain ⟨h, h6⟩ := a2 h
    obtain ⟨h, h5⟩ := a2 h
    obtain ⟨h, h4⟩ := a2 h
    obtain ⟨h, h3⟩ := a2 h
    obtain ⟨h1, h2⟩ := a2 h
    obtain ⟨h2, h2c⟩ := a2 h2
    obtain ⟨h2a, h2b⟩ := a2 h2
    obtain ⟨h3a, h3b⟩ := a2 h3
    obtain ⟨h4a, h4b⟩ := a2 h4
    obtain ⟨h5a, h5b⟩ := a2 h5
    obtain ⟨h6a, h6b⟩ := a2 h6
    obtain ⟨h7a, h7b⟩ := a2 h7
    exact .val (e_comp2 c hX hs h1 h2a h2b (fun j hj => of_decide_eq_true (List.all_eq_true.mp h2c j hj)) h3a h3b (n1 h4a) (n1 h4b) h5a h5b (ii sc _ _ X c hX hs h6a) (fun X' c' n' k' s' => ii1 _ _ _ X' c' (n'.trans hX) s' h6b) (fun X' c' n' k' s' => (ic _ X' c' (n'.trans hX) s').2 _ h7a) (fun X' c' n' k' s' => (ic1 _ X' c' (n'.trans hX) s').2 _ h7b) fun X' c' n' k' s' => (ie _ _ X' c' (n'.trans hX) s' h8).pe) (fun _ => rfl) rfl
  · cases h
theorem ok_compD {own : List Nat} {elt : E} {tg : Tg} {i : Nat} {co : Oe} (ie : AllE F G N elt) (ic : AllO F G N co) : AllE F G N (.compD own elt tg i co) := fun sc x X c hX hs h => by
  unfold ckE at h
  split at h <;> first | (rename_i hh; cases hh; done) | (rename_i hh _; cases hh; done) | skip
  · rename_i hh; cases hh
    obtain ⟨h, h8⟩ := a2 h
    obtain ⟨h, h7⟩ := a2 h
    obtain ⟨h, h6⟩ := a2 h
    obtain ⟨h, h5⟩ := a2 h
    obtain ⟨h, h4⟩ := a2 h
    obtain ⟨h, h3⟩ := a2 h
    obtain ⟨h1, h2⟩ := a2 h
    exact .val (e_compD c hX hs h1 h2 h3 (n1 h4) h5 (nm_var hX hs h6) (fun X' c' n' k' s' => (ic _ X' c' (n'.trans hX) s').2 _ h7) fun X' c' n' k' s' => (ie _ _ X' c' (n'.trans hX) s' h8).pe) (fun _ => rfl) rfl
  · cases h
section
variable (fit : FnFit F)
include fit
mutual
theorem okE : ∀ e : E, AllE F G N e
  | .var i => ok_var i
  | .non => ok_non
  | .bl b => ok_bl b
  | .int i => ok_int i
  | .str x => ok_str x
  | .glo x d => ok_glo x d
  | .tup es => ok_tup (okEs es)
  | .lst es => ok_lst (okEs es)
  | .dic0 => ok_dic0
  | .dic1 k e => ok_dic1 (okE e)
  | .bin op a b => ok_bin (okE a) (okE b)
  | .neg a => ok_neg (okE a)
  | .not a => ok_not (okE a)
  | .and a b => ok_and (okE a) (okE b)
  | .or a b => ok_or (okE a) (okE b)
  | .ife c a b => ok_ife (okE c) (okE a) (okE b)
  | .cmp op a b => ok_cmp (okE a) (okE b)
  | .chn op op2 a b c => ok_chn (okE a) (okE b) (okE c)
  | .isn a => ok_isn (okE a)
  | .nis a => ok_nis (okE a)
  | .idx a b => ok_idx (okE a) (okE b)
  | .slc a lo hi => ok_slc (okE a) (okO lo) (okO hi)
  | .rev a => ok_rev (okE a)
  | .call f x es => ok_call fit (okEs es)
  | .fn g x => ok_fn g x
  | .cal i fs es => ok_cal fit (okEs es)
  | .prm p .nil => ok_prm ok_nil fun a e => by cases e
  | .prm p (.cons a es) => ok_prm (ok_cons (okE a) (okEs es)) fun b e => by cases e; exact okE a
  | .isi a t => ok_isi (okE a)
  | .met m i .nil => ok_met ok_nil fun a r e => by cases e
  | .met m i (.cons a .nil) => ok_met (ok_cons (okE a) ok_nil) fun b r e => by cases e; exact ⟨okE a, fun b r2 e => by cases e⟩
  | .met m i (.cons a (.cons b es)) => ok_met (ok_cons (okE a) (ok_cons (okE b) (okEs es))) fun b r e => by cases e; exact ⟨okE a, fun b r2 e => by cases e; exact okE b⟩
  | .comp ow elt tg it c => ok_comp (okE elt) (okI it) (okO c)
  | .compD ow elt tg i c => ok_compD (okE elt) (okO c)
  | .lrg1 a => ok_lrg1 (okE a)
  | .lset a => ok_lset (okE a)
  | .rpl a b => ok_rpl (okE a) (okE b)
  | .lrg2 a b => ok_lrg2 (okE a) (okE b)
  | .comp2 ow ow1 elt tg it c tg1 it1 c1 => ok_comp2 (okE elt) (okI it) (okO c) (okI it1) (okO c1)
theorem okEs : ∀ es : Es, AllEs F G N es
  | .nil => ok_nil
  | .cons e es => ok_cons (okE e) (okEs es)
theorem okO : ∀ o : Oe, AllO F G N o
  | .none => ok_onone
  | .some e => ok_osome (okE e)
theorem okI : ∀ i : It, AllI F G N i
  | .e a => ok_ie (okE a)
  | .r1 a => ok_r1 (okE a)
  | .r2 a b => ok_r2 (okE a) (okE b)
  | .r3 a b c => ok_r3 (okE a) (okE b) (okE c)
end
end
end
end Rf

set_option Elab.async false
set_option linter.all false
set_option maxRecDepth 100000
set_option maxHeartbeats 8000000
/-! Rf14: statements. -/
namespace Rf
open PySem PySem.Spec L2

/-! ### growing -/
structure Grow (A : Own) (H : Hp) (A' : Own) (H' : Hp) : Prop where
  ext : Ext (ow A) H H'
  sub : ∀ a, a ∈ ow A' → a ∈ ow A ∨ H a = none
theorem Grow.refl (A : Own) (H : Hp) : Grow A H A H := ⟨Ext.refl _ _, fun _ h => .inl h⟩
theorem Grow.of {A : Own} {H H' : Hp} (e : Ext (ow A) H H') : Grow A H A H' := ⟨e, fun _ h => .inl h⟩
theorem Grow.trans {A A1 A2 : Own} {H H1 H2 : Hp} (g : Grow A H A1 H1) (k : Grow A1 H1 A2 H2) : Grow A H A2 H2 := by
  refine ⟨⟨fun a o h n => ?_, fun a h => g.ext.dom a (k.ext.dom a h)⟩, fun a h => ?_⟩
  · refine k.ext.keep a o (g.ext.keep a o h n) (n.imp (fun n z => ?_) id)
    rcases g.sub a z with z | z
    · exact n z
    · rw [h] at z; cases z
  · rcases k.sub a h with h | h
    · exact g.sub a h
    · exact .inr (g.ext.dom a h)
section
variable {K : PySem.W.Frag} {W : Wd} {A A' : Own} {H H' : Hp}
theorem Grow.rep (g : Grow A H A' H') {d : PyData} {v : V} (r : Rep K (Lk W A) H d v) : Rep K (Lk W A') H' d v := by
  have r1 : Rep K (ow A ++ Lk W A') H d v := r.add fun a h => by
    rcases List.mem_append.mp h with h | h
    · exact .inl (ow_Lk a h)
    · rcases List.mem_append.mp h with h | h
      · exact .inl (List.mem_append_left _ h)
      · exact (g.sub a h).imp (ow_Lk a) id
  exact (r1.ext g.ext fun a h => List.mem_append_left _ h).sub fun a h => List.mem_append_right _ h
theorem Grow.repAll (g : Grow A H A' H') {d : List PyData} {v : List V} (r : RepAll K (Lk W A) H d v) : RepAll K (Lk W A') H' d v := by
  have r1 : RepAll K (ow A ++ Lk W A') H d v := r.add fun a h => by
    rcases List.mem_append.mp h with h | h
    · exact .inl (ow_Lk a h)
    · rcases List.mem_append.mp h with h | h
      · exact .inl (List.mem_append_left _ h)
      · exact (g.sub a h).imp (ow_Lk a) id
  exact (r1.ext g.ext fun a h => List.mem_append_left _ h).sub fun a h => List.mem_append_right _ h
theorem Grow.drop {i : Nat} (e : Ext (ow A) H H') : Grow A H (A.set i none) H' := ⟨e, fun _ h => .inl (ow_none h)⟩
end

/-- what a return hands on -/
def RetV (K : PySem.W.Frag) (W : Wd) (A' : Own) (H' : Hp) (ρ' : Env) (σ' : St) (v : V) : RV → Prop
  | .v d => Sim K W A' H' ρ' σ' ∧ Rep K (Lk W A') H' d v
  | .m o => ∃ a, v = .ref a ∧ W.H0 a = none ∧ Sim K { W with D := a :: W.D } A' H' ρ' σ' ∧ MoOk K (Lk { W with D := a :: W.D } A') H' o a
  | .b _ => False
  | .f _ _ => False
  | .mt o d => ∃ p a v2, v = .ref p ∧ SqT K H' p [.ref a, v2] ∧ W.H0 a = none ∧ Sim K { W with D := a :: W.D } A' H' ρ' σ' ∧ MoOk K (Lk { W with D := a :: W.D } A') H' o a ∧ Rep K (Lk { W with D := a :: W.D } A') H' d v2
/-- what a run of statements is to end in -/
def PostS (K : PySem.W.Frag) (W : Wd) (A : Own) (H : Hp) (D : Ends) : Fl → Prop
  | .nxt ρ' => ∀ A' σ' H', Grow A H A' H' → Sim K W A' H' ρ' σ' → D.nx σ' H'
  | .brk ρ' => ∀ A' σ' H', Grow A H A' H' → Sim K W A' H' ρ' σ' → D.bk σ' H'
  | .cnt ρ' => ∀ A' σ' H', Grow A H A' H' → Sim K W A' H' ρ' σ' → D.ct σ' H'
  | .ret r ρ' => ∀ v A' σ' H', Grow A H A' H' → RetV K W A' H' ρ' σ' v r → D.rt v H'
def tS (K : PySem.W.Frag) (f : EvS) : TS := fun D σ H => ∃ (W : Wd) (A : Own) (ρ : Env) (fl : Fl), Sim K W A H ρ σ ∧ f ρ = .ok fl ∧ PostS K W A H D fl
theorem PostS.grow {K : PySem.W.Frag} {W : Wd} {A A1 : Own} {H H1 : Hp} {D : Ends} {fl : Fl} (g : Grow A H A1 H1) (p : PostS K W A H D fl) : PostS K W A1 H1 D fl := by
  cases fl with
  | nxt ρ => exact fun A' σ' H' k => p A' σ' H' (g.trans k)
  | brk ρ => exact fun A' σ' H' k => p A' σ' H' (g.trans k)
  | cnt ρ => exact fun A' σ' H' k => p A' σ' H' (g.trans k)
  | ret r ρ => exact fun v A' σ' H' k => p v A' σ' H' (g.trans k)
theorem PS.imp {X : Cx} {st : Stmt} {t t' : TS} (h : PS X st t) (i : ∀ D σ H, t' D σ H → t D σ H) : PS X st t' := ⟨fun pins s σ H D I q => h.run pins s σ H D I (i D σ H q)⟩
theorem PSs.imp {X : Cx} {st : List Stmt} {t t' : TS} (h : PSs X st t) (i : ∀ D σ H, t' D σ H → t D σ H) : PSs X st t' := ⟨fun pins s σ H D I q => h.run pins s σ H D I (i D σ H q)⟩

/-! ### the frame of a def -/
structure SCx (X : Cx) (F : Fn) (G : Gd) : Prop extends Ctx X F G where
  fn : ∀ x, X.fn x = true
  xe : X.xe = fun _ _ => False
  kind : X.env.scope.kind = .function
section
variable {X : Cx} {F : Fn} {G : Gd} {N : List Str} {sc : Scope}
theorem SCx.may (c : SCx X F G) (x : Str) : MayPut X x := .inl (c.fn x)
theorem SCx.pass (c : SCx X F G) : PassesOwn (model X.prog X.w) X.A X.env X.xe := by rw [c.xe]; exact PassesOwn.never

/-- is the store swapped with the comprehension's end -/
def swB (sc : Scope) (t : Str) (l : Nat) : Expr → Bool
  | .ListComp _ _ s p => decide (sc.names.lookup t = some .local) && (l == p.line) && !(s.names.any fun (n, k) => n == t && (k == .local || k == .cell))
  | _ => false
def noComp : Expr → Bool
  | .ListComp _ _ _ _ => false
  | .SetComp _ _ _ _ => false
  | .DictComp _ _ _ _ _ => false
  | _ => true
theorem sw_no {e : Expr} (h : noComp e = true) (t : Option Expr) (l : Nat) (env : PySem.Env) : swapsWith e t l env = pure false := by
  cases e <;> first | rfl | cases h
theorem sw_sub {e : Expr} (o i : Expr) (p : Pos) (l : Nat) (env : PySem.Env) : swapsWith e (some (.Subscript o i p)) l env = pure false := by
  cases e <;> rfl
theorem sw_tup {e : Expr} (es : List Expr) (k : Nat) (p : Pos) (l : Nat) (env : PySem.Env) : swapsWith e (some (.Tuple es k p)) l env = pure false := by
  cases e <;> rfl
theorem sw_false {elt : Expr} {gs : List Comprehension} {scope : Scope} {pos py : Pos} {y : Str} {l : Nat} {env : PySem.Env} (hk : env.scope.kind = .function) (h : swB env.scope y py.line (.ListComp elt gs scope pos) = false) :
    swapsWith (.ListComp elt gs scope pos) (some (.Name y py)) l env = pure false := by
  have hb : env.blockKind = .function := by unfold Env.blockKind; rw [hk]; rfl
  have ky : env.kindOf y = env.scope.names.lookup y := rfl
  unfold swapsWith
  unfold swB at h
  simp only [hb, ky, Expr.pos]
  by_cases h1 : env.scope.names.lookup y = some .local
  · rw [h1] at h ⊢
    simp only [decide_true, Bool.true_and] at h
    show pure ((true && true) && _ && _) = _
    simp only [Bool.true_and]
    rw [h]
  · have : (env.scope.names.lookup y == some NameKind.local) = false := by simpa using h1
    rw [this]; rfl
def compB : Expr → Bool
  | .ListComp _ _ _ _ => true
  | .SetComp _ _ _ _ => true
  | .DictComp _ _ _ _ _ => true
  | _ => false
theorem prm_no {p : Pm} {es : Es} {v : Expr} (hv : compB v = true) : ckE G N sc (.prm p es) v = false := by
  cases v <;> first | (cases hv; done) | skip
  all_goals
    cases p <;> first | rfl | skip
    cases es with
    | nil => rfl
    | cons a r => cases r <;> rfl
theorem asg_ok (c : SCx X F G) (hX : X.N = N) (hs : X.env.scope = sc) {i : Nat} {x : Str} {px pos : Pos} {v : Expr} {e : E} (hi : N[i]? = some x) (hl : locB sc x = true) (all : ∀ e : E, AllE F G N e) (allI : ∀ i : It, AllI F G N i) (allO : ∀ o : Oe, AllO F G N o) (h : ckE G N sc e v = true) : PS X (.Assign [.Name x px] v pos) (tAsg (tV X.K (ev F e)) (gName i)) := by
  have hx : Loc X.env.scope x := by
    rw [hs]
    unfold locB at hl
    rw [Bool.or_eq_true, decide_eq_true_eq, decide_eq_true_eq] at hl
    exact hl
  have hk := c.kind
  have he := (all e sc v X c.toCtx hX hs h).pe
  have plain : swapsWith v (some (.Name x px)) pos.line X.env = pure false → PS X (.Assign [.Name x px] v pos) (tAsg (tV X.K (ev F e)) (gName i)) := fun z => ps_set c.nd (by rw [hX]; exact hi) hx he z (c.may x)
  cases v <;> first | exact plain (sw_no rfl _ _ _) | skip
  · rename_i elt gs scope cp
    by_cases hw : swB sc x px.line (.ListComp elt gs scope cp) = true
    · have hw2 := hw
      unfold swB at hw2
      obtain ⟨w1, w3⟩ := a2 hw2
      obtain ⟨w1, w2⟩ := a2 w1
      have sw : swapsWith (.ListComp elt gs scope cp) (some (.Name x px)) pos.line X.env = pure true := sw_true hk (by rw [hs]; exact dx w1) w2 (by simpa using w3)
      cases e <;> first | exact noB h rfl | exact noB h (prm_no rfl) | skip
      · unfold ckE at h
        split at h <;> first | (rename_i hh; cases hh; done) | (rename_i hh _; cases hh; done) | skip
        · rename_i hh hv; cases hh; cases hv
          obtain ⟨h, h8⟩ := a2 h
          obtain ⟨h, h7⟩ := a2 h
          obtain ⟨h, h6⟩ := a2 h
          obtain ⟨h, h5⟩ := a2 h
          obtain ⟨h, h4⟩ := a2 h
          obtain ⟨h, h3⟩ := a2 h
          obtain ⟨h1, h2⟩ := a2 h
          exact s_comp c.toCtx hX hs h1 h2 h3 (n1 h4) h5 (allI _ sc _ _ X c.toCtx hX hs h6) (fun X' c' n' k' s' => (allO _ _ X' c' (n'.trans hX) s').2 _ h7) (fun X' c' n' k' s' => (all _ _ _ X' c' (n'.trans hX) s' h8).pe) hi (dx w1) sw
        · cases h
      · unfold ckE at h
        split at h <;> first | (rename_i hh; cases hh; done) | (rename_i hh _; cases hh; done) | skip
        · rename_i hh hv; cases hh; cases hv
          obtain ⟨h, h8⟩ := a2 h
          obtain ⟨h, h7⟩ := a2 h
          obtain ⟨h, h6⟩ := a2 h
          obtain ⟨h, h5⟩ := a2 h
          obtain ⟨h, h4⟩ := a2 h
          obtain ⟨h, h3⟩ := a2 h
          obtain ⟨h1, h2⟩ := a2 h
          exact s_compD c.toCtx hX hs h1 h2 h3 (n1 h4) h5 (nm_var hX hs h6) (fun X' c' n' k' s' => (allO _ _ X' c' (n'.trans hX) s').2 _ h7) (fun X' c' n' k' s' => (all _ _ _ X' c' (n'.trans hX) s' h8).pe) hi (dx w1) sw
        · cases h
      · unfold ckE at h
        split at h <;> first | (rename_i hh; cases hh; done) | (rename_i hh _; cases hh; done) | skip
        · rename_i hh hv; cases hh; cases hv
          obtain ⟨h, h8⟩ := a2 h
          obtain ⟨h, h7⟩ := a2 h
          obtain ⟨h, h6⟩ := a2 h
          obtain ⟨h, h5⟩ := a2 h
          obtain ⟨h, h4⟩ := a2 h
          obtain ⟨h, h3⟩ := a2 h
          obtain ⟨h1, h2⟩ := a2 h
          obtain ⟨h2, h2c⟩ := a2 h2
          obtain ⟨h2a, h2b⟩ := a2 h2
          obtain ⟨h3a, h3b⟩ := a2 h3
          obtain ⟨h4a, h4b⟩ := a2 h4
          obtain ⟨h5a, h5b⟩ := a2 h5
          obtain ⟨h6a, h6b⟩ := a2 h6
          obtain ⟨h7a, h7b⟩ := a2 h7
          exact s_comp2 c.toCtx hX hs h1 h2a h2b (fun j hj => of_decide_eq_true (List.all_eq_true.mp h2c j hj)) h3a h3b (n1 h4a) (n1 h4b) h5a h5b (allI _ sc _ _ X c.toCtx hX hs h6a) (fun X' c' n' k' s' => allI _ _ _ _ X' c' (n'.trans hX) s' h6b) (fun X' c' n' k' s' => (allO _ _ X' c' (n'.trans hX) s').2 _ h7a) (fun X' c' n' k' s' => (allO _ _ X' c' (n'.trans hX) s').2 _ h7b) (fun X' c' n' k' s' => (all _ _ _ X' c' (n'.trans hX) s' h8).pe) hi (dx w1) sw
        · cases h
    · exact plain (sw_false hk (by rw [hs]; simpa using hw))
  all_goals (cases e <;> first | exact noB h rfl | exact noB h (prm_no rfl))
end
end Rf

set_option Elab.async false
set_option linter.all false
set_option maxRecDepth 100000
set_option maxHeartbeats 8000000
/-! Rf15: statements, one by one. -/
namespace Rf
open PySem PySem.Spec L2
section
variable {X : Cx} {F : Fn} {G : Gd} {N : List Str} {sc : Scope} {e : Expr} {ee : E} {pos : Pos}
section
variable {K : PySem.W.Frag} {W : Wd} {A : Own} {ρ ρ' : Env} {σ : St} {H : Hp} {r : RV}
/-- a kept value, put into a slot -/
theorem keep_bind {v : V} {H' : Hp} {d : PyData} {i : Nat} (S : Sim K W A H ρ σ) (e : Ext (ow A) H H') (p : PostV K W A H H' ρ' σ v r) (hk : keep r = some d) (hi : i < ρ'.length) :
    Sim K W (A.set i none) H' (ρ'.set i (some (.v d))) (σ.set i (some v)) ∧ Grow A H (A.set i none) H' := by
  obtain ⟨S', hl⟩ := p.held S
  exact ⟨S'.bind hi (hl.keep hk), .drop e⟩
theorem own_bind {v : V} {H' : Hp} {o : MO} {i : Nat} (S : Sim K W A H ρ σ) (e : Ext (ow A) H H') (p : PostV K W A H H' ρ' σ v (.m o)) (hi : i < ρ'.length) :
    ∃ a, Sim K W (A.set i (some a)) H' (ρ'.set i (some (.m o))) (σ.set i (some v)) ∧ Grow A H (A.set i (some a)) H' := by
  obtain ⟨a, rfl, hn, S', m⟩ := p
  refine ⟨a, S'.take (fun z => S.lck a z hn) hi (S.ext0.dom a hn) m, e, fun b hb => ?_⟩
  obtain ⟨j, ej⟩ := ow_at2 hb
  by_cases hA : i < A.length
  · rw [at2_set hA] at ej
    by_cases z : j = i
    · rw [if_pos z] at ej; cases ej; exact .inr hn
    · rw [if_neg z] at ej; exact .inl (at2_ow ej)
  · rw [List.set_eq_of_length_le (by omega)] at ej
    exact .inl (at2_ow ej)
theorem Sim.ltN (S : Sim K W A H ρ σ) {i : Nat} (h : i < σ.length) : i < ρ.length := by rw [← S.lenS]; exact h
end
theorem PS.impL {st : Stmt} {t t' : TS} (h : PS X st t) (i : ∀ D σ H, σ.length = X.N.length → t' D σ H → t D σ H) : PS X st t' := ⟨fun pins s σ H D I q => h.run pins s σ H D I (i D σ H I.len q)⟩
theorem lt_of {i : Nat} {x : Str} {L : List Str} (h : L[i]? = some x) : i < L.length := (List.getElem?_eq_some_iff.mp h).1
theorem PostV.len {K : PySem.W.Frag} {W : Wd} {A : Own} {ρ' : Env} {σ : St} {H H' : Hp} {r : RV} {v : V} (p : PostV K W A H H' ρ' σ v r) : σ.length = ρ'.length := by
  cases r with
  | v d => exact p.1.lenS
  | m o => obtain ⟨_, _, _, S, _⟩ := p; exact S.lenS
  | b i => exact p.1.lenS
  | f g x => exact p.1.lenS
  | mt o d => obtain ⟨_, _, _, _, _, _, S, _⟩ := p; exact S.lenS
theorem s_set {i : Nat} {x : Str} {px : Pos} (hi : X.N[i]? = some x) (h : PS X (.Assign [.Name x px] e pos) (tAsg (tV X.K (ev F ee)) (gName i))) : PS X (.Assign [.Name x px] e pos) (tS X.K (evS F (.set i ee))) := by
  refine PS.impL h fun D σ H hl ⟨W, A, ρ, fl, S, he, q⟩ => ?_
  unfold evS at he
  obtain ⟨⟨r, ρ1⟩, h1, he⟩ := bnd_inv he
  obtain ⟨d, hd, he⟩ := bnd_inv he
  cases he
  refine ⟨W, A, ρ, r, ρ1, S, h1, fun v H' e p => ?_⟩
  obtain ⟨S', g⟩ := keep_bind (i := i) S e p (ofO_inv hd) (by rw [← p.len, hl]; exact lt_of hi)
  exact q _ _ _ g S'
theorem s_own {i : Nat} {x : Str} {px : Pos} (hi : X.N[i]? = some x) (h : PS X (.Assign [.Name x px] e pos) (tAsg (tV X.K (ev F ee)) (gName i))) : PS X (.Assign [.Name x px] e pos) (tS X.K (evS F (.own i ee))) := by
  refine PS.impL h fun D σ H hl ⟨W, A, ρ, fl, S, he, q⟩ => ?_
  unfold evS at he
  obtain ⟨⟨r, ρ1⟩, h1, he⟩ := bnd_inv he
  cases r with
  | v d => cases he
  | b i => cases he
  | f g x => cases he
  | mt o d => cases he
  | m o =>
    cases he
    refine ⟨W, A, ρ, .m o, ρ1, S, h1, fun v H' e p => ?_⟩
    obtain ⟨a, S', g⟩ := own_bind (i := i) S e p (by rw [← p.len, hl]; exact lt_of hi)
    exact q _ _ _ g S'
/-! stores of several names -/
theorem s_tpl {is : List Nat} {es : List Expr} {k : Nat} {tp : Pos} (he : PE X e (tV X.K (ev F ee))) (hg : PG X (.Tuple es k tp) (tG X.K (.t is))) (hw : swappedStores [.Tuple es k tp] e X.env = pure none) :
    PS X (.Assign [.Tuple es k tp] e pos) (tS X.K (evS F (.tpl is ee))) := by
  refine PS.imp (ps_asg he hg (sw_tup es k tp pos.line X.env) hw) fun D σ H ⟨W, A, ρ, fl, S, hev, q⟩ => ?_
  unfold evS at hev
  obtain ⟨⟨r, ρ1⟩, h1, hev⟩ := bnd_inv hev
  obtain ⟨d, hd, hev⟩ := bnd_inv hev
  obtain ⟨ρ2, h2, hev⟩ := bnd_inv hev
  cases hev
  refine tV.mk S h1 fun v H1 e1 S1 l1 => ⟨W, A, ρ1, d, ρ2, S1, l1.keep (ofO_inv hd), ofO_inv h2, fun σ' S2 _ _ => q _ _ _ (.of e1) S2⟩
def parB (sc : Scope) (x y : Str) (px py : Pos) (a b : Expr) : Bool :=
  decide (sc.names.lookup x = some .local) && decide (sc.names.lookup y = some .local) && (px.line == py.line) && !(x == y) && !([a, b].all (foldedForSure 8)) && !([a, b].all (constantsAlone 8)) && !starB a && !starB b
theorem par_sw {x y : Str} {px py pt p2 : Pos} {kt k2 : Nat} {a b : Expr} {env : PySem.Env} (hk : env.scope.kind = .function) (h : parB env.scope x y px py a b = true) :
    swappedStores [.Tuple [.Name x px, .Name y py] kt pt] (.Tuple [a, b] k2 p2) env = pure (some [x, y]) := by
  unfold parB at h
  obtain ⟨h, h8⟩ := a2 h
  obtain ⟨h, h7⟩ := a2 h
  obtain ⟨h, h6⟩ := a2 h
  obtain ⟨h, h5⟩ := a2 h
  obtain ⟨h, h4⟩ := a2 h
  obtain ⟨h, h3⟩ := a2 h
  obtain ⟨h1, h2⟩ := a2 h
  have hb : env.blockKind = .function := by unfold Env.blockKind; rw [hk]; rfl
  have k1 : env.kindOf x = some .local := dx h1
  have k2 : env.kindOf y = some .local := dx h2
  have hl : px.line = py.line := by simpa using h3
  have hxy : (x == y) = false := n1 h4
  have st : ([a, b].any fun | .Starred .. => true | _ => false) = false := by
    have e1 : starB a = false := n1 h7
    have e2 : starB b = false := n1 h8
    refine List.any_eq_false.mpr fun e he => ?_
    have hs : starB e = false := by
      simp only [List.mem_cons, List.not_mem_nil, or_false] at he
      rcases he with rfl | rfl
      · exact e1
      · exact e2
    cases e <;> first | (cases hs; done) | exact fun h => Bool.noConfusion (show false = true from h)
  have yx : (y == x) = false := by
    cases z : y == x with
    | false => rfl
    | true => rw [eq_of_beq z] at hxy; simp at hxy
  have names : ([Expr.Name x px, Expr.Name y py].filterMap fun
    | .Name id pos => if env.kindOf id == some .local && pos.line == (([Expr.Name x px, Expr.Name y py].head?.map (·.pos.line)).getD 0) then some id else none
    | _ => none) = [x, y] := by
    simp [k1, k2, Expr.pos, hl]
  have ed : [x, y].eraseDups = [x, y] := by
    unfold List.eraseDups
    simp [List.eraseDupsBy, List.eraseDupsBy.loop, hxy, yx]
  unfold swappedStores
  refine (if_neg fun z => ?_).trans ?_
  · rw [hb] at z
    exact Bool.noConfusion (show false = true from z)
  refine (if_neg fun z => Bool.noConfusion (st.symm.trans z)).trans ?_
  refine (if_neg fun z => ?_).trans ?_
  · have z2 : ([x, y].length != 2 || [x, y].eraseDups.length != [x, y].length) = true := by
      rw [← names]; exact z
    rw [ed] at z2
    exact Bool.noConfusion (show false = true from z2)
  refine (if_neg fun z => Bool.noConfusion ((n1 h5).symm.trans z)).trans ?_
  refine (if_neg fun z => Bool.noConfusion ((n1 h6).symm.trans z)).trans ?_
  exact congrArg (fun l => (pure (some l) : Sem (Option (List Str)))) names
theorem evK_two {ea eb : E} {ρ ρ1 ρ2 : Env} {x y : RV} {dx dy : PyData} (h1 : ev F ea ρ = .ok (x, ρ1)) (h2 : ev F eb ρ1 = .ok (y, ρ2)) (kx : keep x = some dx) (ky : keep y = some dy) : evK F (.cons ea (.cons eb .nil)) ρ = .ok ([dx, dy], ρ2) := by
  simp only [evK, h1, bnd_ok, kx, ofO_some, h2, ky]
theorem s_par {i j : Nat} {x y : Str} {px py pt p2 : Pos} {kt k2 : Nat} {a b : Expr} {ea eb : E} (c : SCx X F G) (hs : X.env.scope = sc) (hi : X.N[i]? = some x) (hj : X.N[j]? = some y) (ha : PE X a (tV X.K (ev F ea))) (hb : PE X b (tV X.K (ev F eb))) (hp : parB sc x y px py a b = true) :
    PS X (.Assign [.Tuple [.Name x px, .Name y py] kt pt] (.Tuple [a, b] k2 p2) pos) (tS X.K (evS F (.par i j ea eb))) := by
  have hsw := par_sw (pt := pt) (p2 := p2) (kt := kt) (k2 := k2) c.kind (by rw [hs]; exact hp)
  unfold parB at hp
  obtain ⟨h, h8⟩ := a2 hp
  obtain ⟨h, h7⟩ := a2 h
  obtain ⟨h, h6⟩ := a2 h
  obtain ⟨h, h5⟩ := a2 h
  obtain ⟨h, h4⟩ := a2 h
  obtain ⟨h, h3⟩ := a2 h
  obtain ⟨h1, h2⟩ := a2 h
  have hij : i ≠ j := fun z => by
    subst z
    rw [hi] at hj; cases hj
    have := n1 h4
    simp at this
  refine PS.impL (ps_par c.calm c.nd hi hj hij (by rw [hs]; exact dx h1) (by rw [hs]; exact dx h2) (k_cons ha (k_cons hb k_nil (n1 h8)) (n1 h7)) hsw rfl) fun D σ H hl ⟨W, A, ρ, fl, S, he, q⟩ => ?_
  unfold evS at he
  obtain ⟨⟨r1, ρ1⟩, h1, he⟩ := bnd_inv he
  obtain ⟨⟨r2, ρ2⟩, h2, he⟩ := bnd_inv he
  obtain ⟨d1, hd1, he⟩ := bnd_inv he
  obtain ⟨d2, hd2, he⟩ := bnd_inv he
  cases he
  refine ⟨W, A, ρ, [d1, d2], ρ2, S, evK_two h1 h2 (ofO_inv hd1) (ofO_inv hd2), fun vs H' e S' rv => ?_⟩
  cases rv with
  | cons rx rr =>
    cases rr with
    | cons ry rn =>
      cases rn
      refine ⟨_, _, rfl, ?_⟩
      have li : i < ρ2.length := by rw [← S'.lenS, hl]; exact lt_of hi
      have lj : j < ρ2.length := by rw [← S'.lenS, hl]; exact lt_of hj
      have S2 := S'.bind li rx
      have S3 := S2.bind (i := j) (by rw [List.length_set]; exact lj) (ry.sub fun b hb => (List.mem_append.mp hb).elim (fun z => List.mem_append_left _ z) fun z => List.mem_append_right _ (ow_none z))
      exact q _ _ _ ((Grow.drop e).trans (.drop (Ext.refl _ _))) S3
def parB3 (sc : Scope) (x y z : Str) (px py pz : Pos) (a b c : Expr) : Bool :=
  decide (sc.names.lookup x = some .local) && decide (sc.names.lookup y = some .local) && decide (sc.names.lookup z = some .local) && (px.line == py.line) && (px.line == pz.line) && !(x == y) && !(x == z) && !(y == z) && !([a, b, c].all (foldedForSure 8)) && !([a, b, c].all (constantsAlone 8)) && !starB a && !starB b && !starB c
theorem par_sw3 {x y z : Str} {px py pz pt p2 : Pos} {kt k2 : Nat} {a b c : Expr} {env : PySem.Env} (hk : env.scope.kind = .function) (h : parB3 env.scope x y z px py pz a b c = true) :
    swappedStores [.Tuple [.Name x px, .Name y py, .Name z pz] kt pt] (.Tuple [a, b, c] k2 p2) env = pure (some [x, y, z]) := by
  unfold parB3 at h
  obtain ⟨h, g13⟩ := a2 h
  obtain ⟨h, g12⟩ := a2 h
  obtain ⟨h, g11⟩ := a2 h
  obtain ⟨h, g10⟩ := a2 h
  obtain ⟨h, g9⟩ := a2 h
  obtain ⟨h, g8⟩ := a2 h
  obtain ⟨h, g7⟩ := a2 h
  obtain ⟨h, g6⟩ := a2 h
  obtain ⟨h, g5⟩ := a2 h
  obtain ⟨h, g4⟩ := a2 h
  obtain ⟨h, g3⟩ := a2 h
  obtain ⟨g1, g2⟩ := a2 h
  have hb : env.blockKind = .function := by unfold Env.blockKind; rw [hk]; rfl
  have k1 : env.kindOf x = some .local := dx g1
  have k2 : env.kindOf y = some .local := dx g2
  have k3 : env.kindOf z = some .local := dx g3
  have hl : px.line = py.line := by simpa using g4
  have hl2 : px.line = pz.line := by simpa using g5
  have hxy : (x == y) = false := n1 g6
  have hxz : (x == z) = false := n1 g7
  have hyz : (y == z) = false := n1 g8
  have sym : ∀ {u v : Str}, (u == v) = false → (v == u) = false := fun {u v} h => by
    cases q : v == u with
    | false => rfl
    | true => rw [eq_of_beq q] at h; simp at h
  have st : ([a, b, c].any fun | .Starred .. => true | _ => false) = false := by
    have e1 : starB a = false := n1 g11
    have e2 : starB b = false := n1 g12
    have e3 : starB c = false := n1 g13
    refine List.any_eq_false.mpr fun e he => ?_
    have hs : starB e = false := by
      simp only [List.mem_cons, List.not_mem_nil, or_false] at he
      rcases he with rfl | rfl | rfl
      · exact e1
      · exact e2
      · exact e3
    cases e <;> first | (cases hs; done) | exact fun h => Bool.noConfusion (show false = true from h)
  have names : ([Expr.Name x px, Expr.Name y py, Expr.Name z pz].filterMap fun
    | .Name id pos => if env.kindOf id == some .local && pos.line == (([Expr.Name x px, Expr.Name y py, Expr.Name z pz].head?.map (·.pos.line)).getD 0) then some id else none
    | _ => none) = [x, y, z] := by
    simp [k1, k2, k3, Expr.pos, ← hl, ← hl2]
  have ed : [x, y, z].eraseDups = [x, y, z] := by
    unfold List.eraseDups
    simp [List.eraseDupsBy, List.eraseDupsBy.loop, hxy, hxz, hyz, sym hxy, sym hxz, sym hyz]
  unfold swappedStores
  refine (if_neg fun z => ?_).trans ?_
  · rw [hb] at z
    exact Bool.noConfusion (show false = true from z)
  refine (if_neg fun z => Bool.noConfusion (st.symm.trans z)).trans ?_
  refine (if_neg fun q => ?_).trans ?_
  · have z2 : ([x, y, z].length != 3 || [x, y, z].eraseDups.length != [x, y, z].length) = true := by
      rw [← names]; exact q
    rw [ed] at z2
    exact Bool.noConfusion (show false = true from z2)
  refine (if_neg fun z => Bool.noConfusion ((n1 g9).symm.trans z)).trans ?_
  refine (if_neg fun z => Bool.noConfusion ((n1 g10).symm.trans z)).trans ?_
  exact congrArg (fun l => (pure (some l) : Sem (Option (List Str)))) names
theorem s_par3 {i j l : Nat} {x y z : Str} {px py pz pt p2 : Pos} {kt k2 : Nat} {a b d : Expr} {ea eb ed : E} (c : SCx X F G) (hs : X.env.scope = sc) (hi : X.N[i]? = some x) (hj : X.N[j]? = some y) (hl3 : X.N[l]? = some z) (ha : PE X a (tV X.K (ev F ea))) (hb : PE X b (tV X.K (ev F eb))) (hd : PE X d (tV X.K (ev F ed))) (hp : parB3 sc x y z px py pz a b d = true) :
    PS X (.Assign [.Tuple [.Name x px, .Name y py, .Name z pz] kt pt] (.Tuple [a, b, d] k2 p2) pos) (tS X.K (evS F (.pr3 i j l ea eb ed))) := by
  have hsw := par_sw3 (pt := pt) (p2 := p2) (kt := kt) (k2 := k2) c.kind (by rw [hs]; exact hp)
  unfold parB3 at hp
  obtain ⟨h, g13⟩ := a2 hp
  obtain ⟨h, g12⟩ := a2 h
  obtain ⟨h, g11⟩ := a2 h
  obtain ⟨h, g10⟩ := a2 h
  obtain ⟨h, g9⟩ := a2 h
  obtain ⟨h, g8⟩ := a2 h
  obtain ⟨h, g7⟩ := a2 h
  obtain ⟨h, g6⟩ := a2 h
  obtain ⟨h, g5⟩ := a2 h
  obtain ⟨h, g4⟩ := a2 h
  obtain ⟨h, g3⟩ := a2 h
  obtain ⟨g1, g2⟩ := a2 h
  have ne : ∀ {m k : Nat} {u v : Str}, X.N[m]? = some u → X.N[k]? = some v → (u == v) = false → m ≠ k := fun {m k u v} h1 h2 h3 q => by
    subst q
    rw [h1] at h2; cases h2
    simp at h3
  have hij := ne hi hj (n1 g6)
  have hil := ne hi hl3 (n1 g7)
  have hjl := ne hj hl3 (n1 g8)
  refine PS.impL (ps_par3 c.calm c.nd hi hj hl3 hij hil hjl (by rw [hs]; exact dx g1) (by rw [hs]; exact dx g2) (by rw [hs]; exact dx g3) (k_cons ha (k_cons hb (k_cons hd k_nil (n1 g13)) (n1 g12)) (n1 g11)) hsw rfl) fun D σ H hl ⟨W, A, ρ, fl, S, he, q⟩ => ?_
  unfold evS at he
  obtain ⟨⟨r1, ρ1⟩, h1, he⟩ := bnd_inv he
  obtain ⟨⟨r2, ρ2⟩, h2, he⟩ := bnd_inv he
  obtain ⟨⟨r3, ρ3⟩, h3, he⟩ := bnd_inv he
  obtain ⟨d1, hd1, he⟩ := bnd_inv he
  obtain ⟨d2, hd2, he⟩ := bnd_inv he
  obtain ⟨d3, hd3, he⟩ := bnd_inv he
  cases he
  have ek : evK F (.cons ea (.cons eb (.cons ed .nil))) ρ = .ok ([d1, d2, d3], ρ3) := by
    simp only [evK, h1, bnd_ok, ofO_inv hd1, ofO_some, h2, ofO_inv hd2, h3, ofO_inv hd3]
  refine ⟨W, A, ρ, [d1, d2, d3], ρ3, S, ek, fun vs H' e S' rv => ?_⟩
  cases rv with
  | cons rx rr =>
    cases rr with
    | cons ry rr =>
      cases rr with
      | cons rz rn =>
        cases rn
        refine ⟨_, _, _, rfl, ?_⟩
        have li : i < ρ3.length := by rw [← S'.lenS, hl]; exact lt_of hi
        have lj : j < ρ3.length := by rw [← S'.lenS, hl]; exact lt_of hj
        have ll : l < ρ3.length := by rw [← S'.lenS, hl]; exact lt_of hl3
        have S2 := S'.bind li rx
        have S3 := S2.bind (i := j) (by rw [List.length_set]; exact lj) (ry.sub fun b hb => (List.mem_append.mp hb).elim (fun z => List.mem_append_left _ z) fun z => List.mem_append_right _ (ow_none z))
        have S4 := S3.bind (i := l) (by rw [List.length_set, List.length_set]; exact ll) (rz.sub fun b hb => (List.mem_append.mp hb).elim (fun z => List.mem_append_left _ z) fun z => List.mem_append_right _ (ow_none (ow_none z)))
        exact q _ _ _ (((Grow.drop e).trans (.drop (Ext.refl _ _))).trans (.drop (Ext.refl _ _))) S4
def rSetA : TSet := fun o i v H Q => rSetL o i v H Q ∨ rSetD o i v H Q
theorem set_any (hu : X.A.units + 1 < cLine) : PSet X rSetA := fun pins s σ H o i v ov iv u Q I ro ri rv h => by
  rcases h with h | h
  · exact set_list pins s σ H o i v ov iv u Q I ro ri rv h
  · exact set_dict hu pins s σ H o i v ov iv u Q I ro ri rv h
/-- a store into the object of slot i -/
theorem put_ok {W : Wd} {A : Own} {ρ : Env} {σ : St} {H : Hp} {i : Nat} {o o2 : MO} {k d : PyData} {kv v : V} {Q : Hp → Prop} (S : Sim X.K W A H ρ σ) (ho : own ρ i = some o) (hs : setD o k d = some o2) (rk : Rep X.K (Lk W A) H k kv) (r : Rep X.K (Lk W A) H d v)
    (q : ∀ H', Ext (ow A) H H' → Sim X.K W A H' (chg ρ i o2) σ → Q H') : ∃ a, σ[i]? = some (some (.ref a)) ∧ rSetA (.ref a) kv v H Q := by
  obtain ⟨a, hA, hσ, mo⟩ := S.own_at ho
  refine ⟨a, hσ, ?_⟩
  cases mo with
  | l h rr =>
    rename_i ws xs
    left
    cases k <;> first | (cases hs; done) | skip
    rename_i z
    have hs : (ixN xs.length z).map (fun j => MO.l (xs.set j d)) = some o2 := hs
    cases hj : ixN xs.length z with
    | none => rw [hj] at hs; cases hs
    | some j =>
      rw [hj] at hs; cases hs
      cases rk.int_inv
      obtain ⟨e2, s2⟩ := wrX (u := .lst (ws.set j v)) (W := W) (ow_Lk _ (at2_ow hA)) h (fun z => z)
      obtain ⟨S', e'⟩ := S.chg hA (.l upd_same ((rr.set r j).ext e2 s2))
      exact ⟨a, ws, z, j, rfl, rfl, h, by rw [← rr.length]; exact hj, q _ e' S'⟩
  | d h rr =>
    rename_i kvs ks
    right
    have hs : (dK k).bind (fun k => if ks.length < lim then some (MO.d (putP ks k d)) else none) = some o2 := by
      cases k <;> exact hs
    cases hk : dK k with
    | none => rw [hk] at hs; cases hs
    | some key =>
      rw [hk] at hs
      have hs : (if ks.length < lim then some (MO.d (putP ks key d)) else none) = some o2 := hs
      split at hs
      · rename_i hz
        cases hs
        have ek := key_rep rk hk
        obtain ⟨e2, s2⟩ := wrX (u := .dK (putK kvs key v)) (W := W) (ow_Lk _ (at2_ow hA)) h (fun z => z)
        obtain ⟨S', e'⟩ := S.chg hA (.d upd_same (dr_ext e2 s2 (dr_put key r rr)))
        exact ⟨a, _, rfl, .inl ⟨kvs, key, h, ek, by rw [← Paired.length rr, ← lim_eq]; exact hz, rfl⟩, q _ e' S'⟩
      · cases hs
theorem asub_ok {o i : Expr} {p : Pos} (hn : isName o = true) (hi : sliceB i = false) (v : Value) : assign (.Subscript o i p) X.env v = (do
      let ov ← holding [v] (eval o X.env)
      let iv ← holding [v, ov] (eval i X.env)
      standAt p
      holding [v, ov, iv] (setItem ov iv v)
      release [v, ov, iv] []) := by
  cases i <;> first | rfl | cases hi
theorem own_chg_ext {W : Wd} {A : Own} {ρ : Env} {σ : St} {H : Hp} {i : Nat} {o : MO} (S : Sim X.K W A H ρ σ) (ho : own ρ i = some o) : ∃ a, σ[i]? = some (some (.ref a)) := by
  obtain ⟨a, _, h, _⟩ := S.own_at ho
  exact ⟨a, h⟩
theorem s_sit {i : Nat} {o ix : Expr} {p : Pos} {ea : E} (c : SCx X F G) (hn : isName o = true) (hsl : sliceB ix = false) (ho : PE X o (tVar i)) (ha : PE X ix (tV X.K (ev F ea))) (he : PE X e (tV X.K (ev F ee))) :
    PS X (.Assign [.Subscript o ix p] e pos) (tS X.K (evS F (.sit i ea ee))) := by
  have u := c.units
  refine PS.imp (ps_asg he (pg_sub ho ha (set_any (by omega)) (asub_ok hn hsl)) (sw_sub o ix p pos.line X.env) rfl rfl) fun D σ H ⟨W, A, ρ, fl, S, hev, q⟩ => ?_
  unfold evS at hev
  obtain ⟨⟨r, ρ1⟩, h1, hev⟩ := bnd_inv hev
  obtain ⟨d, hd, hev⟩ := bnd_inv hev
  obtain ⟨o00, ho00, hev⟩ := bnd_inv hev
  obtain ⟨⟨r2, ρ2⟩, h2, hev⟩ := bnd_inv hev
  obtain ⟨k, hk, hev⟩ := bnd_inv hev
  obtain ⟨o0, ho0, hev⟩ := bnd_inv hev
  obtain ⟨o2, hset, hev⟩ := bnd_inv hev
  cases hev
  refine tV.mk S h1 fun v H1 e1 S1 l1 => ?_
  obtain ⟨a, hσ⟩ := own_chg_ext S1 (ofO_inv ho00)
  refine ⟨.ref a, hσ, ?_⟩
  refine tV.mk S1 h2 fun v2 H2 e2 S2 l2 => ?_
  obtain ⟨a', hσ', g⟩ := put_ok (Q := fun H3 => D.nx σ H3) S2 (ofO_inv ho0) (ofO_inv hset) (l2.keep (ofO_inv hk)) ((l1.ext e2).keep (ofO_inv hd)) fun H' e3 S3 => q _ _ _ (.of ((e1.trans e2).trans e3)) S3
  rw [hσ] at hσ'; cases hσ'
  exact g
theorem s_swp {i : Nat} {o1 o2 o3 o4 ia ib ic id : Expr} {p1 p2 p3 p4 tp vp : Pos} {k1 k2 : Nat} {ea eb ec ed : E} (c : SCx X F G) (n1' : isName o1 = true) (n2 : isName o2 = true) (n3 : isName o3 = true) (n4 : isName o4 = true)
    (v1 : PE X o1 (tVar i)) (v2 : PE X o2 (tVar i)) (s1 : sliceB ia = false) (s2 : sliceB ib = false) (ha : PE X ia (tV X.K (ev F ea))) (hb : PE X ib (tV X.K (ev F eb)))
    (hc : PE X (.Subscript o3 ic p3) (tV X.K (ev F (.idx (.var i) ec)))) (hd : PE X (.Subscript o4 id p4) (tV X.K (ev F (.idx (.var i) ed)))) :
    PS X (.Assign [.Tuple [.Subscript o1 ia p1, .Subscript o2 ib p2] k1 tp] (.Tuple [.Subscript o3 ic p3, .Subscript o4 id p4] k2 vp) pos) (tS X.K (evS F (.swp i ea eb ec ed))) := by
  have u := c.units
  have g1 : PG X (.Subscript o1 ia p1) (gSub (tVar i) (tV X.K (ev F ea)) rSetA) := pg_sub v1 ha (set_any (by omega)) (asub_ok n1' s1)
  have g2 : PG X (.Subscript o2 ib p2) (gSub (tVar i) (tV X.K (ev F eb)) rSetA) := pg_sub v2 hb (set_any (by omega)) (asub_ok n2 s2)
  have gg : PG X (.Tuple [.Subscript o1 ia p1, .Subscript o2 ib p2] k1 tp) (gTup X.K 2 (gCons (gSub (tVar i) (tV X.K (ev F ea)) rSetA) (gCons (gSub (tVar i) (tV X.K (ev F eb)) rSetA) gNil))) :=
    pg_tup c.calm (pgs_cons g1 (pgs_cons g2 pgs_nil rfl) rfl) rfl rfl
  have hw : swappedStores [.Tuple [.Subscript o1 ia p1, .Subscript o2 ib p2] k1 tp] (.Tuple [.Subscript o3 ic p3, .Subscript o4 id p4] k2 vp) X.env = pure none := by
    have hb : X.env.blockKind = .function := by unfold Env.blockKind; rw [c.kind]; rfl
    unfold swappedStores
    refine (if_neg fun z => ?_).trans ?_
    · rw [hb] at z
      exact Bool.noConfusion (show false = true from z)
    refine (if_neg fun z => Bool.noConfusion (show false = true from z)).trans ?_
    exact if_pos rfl
  refine PS.imp (ps_asg (e_tup (k := k2) (pos := vp) (k_cons hc (k_cons hd k_nil rfl) rfl)) gg rfl hw) fun D σ H ⟨W, A, ρ, fl, S, hev, q⟩ => ?_
  unfold evS at hev
  obtain ⟨⟨rx, ρ1⟩, h1, hev⟩ := bnd_inv hev
  obtain ⟨x, hx, hev⟩ := bnd_inv hev
  obtain ⟨⟨ry, ρ2⟩, h2, hev⟩ := bnd_inv hev
  obtain ⟨y, hy, hev⟩ := bnd_inv hev
  obtain ⟨o00, ho00, hev⟩ := bnd_inv hev
  obtain ⟨⟨r3, ρ3⟩, h3, hev⟩ := bnd_inv hev
  obtain ⟨k3, hk3, hev⟩ := bnd_inv hev
  obtain ⟨o30, ho3, hev⟩ := bnd_inv hev
  obtain ⟨o31, hs3, hev⟩ := bnd_inv hev
  obtain ⟨⟨r4, ρ4⟩, h4, hev⟩ := bnd_inv hev
  obtain ⟨k4, hk4, hev⟩ := bnd_inv hev
  obtain ⟨o40, ho4, hev⟩ := bnd_inv hev
  obtain ⟨o41, hs4, hev⟩ := bnd_inv hev
  cases hev
  have et : ev F (.tup (.cons (.idx (.var i) ec) (.cons (.idx (.var i) ed) .nil))) ρ = .ok (.v (.tuple [x, y]), ρ2) := by
    simp only [ev.eq_7, evK_two h1 h2 (ofO_inv hx) (ofO_inv hy), bnd_ok]
    exact if_pos (show 2 ≤ lim by decide)
  refine tV.mk S et fun v H1 e1 S1 l1 => ?_
  cases l1 with
  | tup hT rr =>
    rename_i a vs
    cases rr with
    | cons r1 rr =>
      cases rr with
      | cons r2 rr =>
        cases rr
        rename_i w1 w2
        obtain ⟨b, hσ⟩ := own_chg_ext S1 (ofO_inv ho00)
        refine ⟨a, [w1, w2], rfl, hT, rfl, w1, [w2], rfl, .ref b, hσ, ?_⟩
        refine tV.mk S1 h3 fun v3 H3 e3 S3 l3 => ?_
        have later : ∀ H4, Ext (ow A) H3 H4 → Sim X.K W A H4 (chg ρ3 i o31) σ → gCons (gSub (tVar i) (tV X.K (ev F eb)) rSetA) gNil [w2] σ H4 D.nx := fun H4 e4 S4 => by
          refine ⟨w2, [], rfl, .ref b, hσ, ?_⟩
          refine tV.mk S4 h4 fun v5 H5 e5 S5 l5 => ?_
          obtain ⟨b', hσ', g⟩ := put_ok (Q := fun H6 => gNil [] σ H6 D.nx) S5 (ofO_inv ho4) (ofO_inv hs4) (l5.keep (ofO_inv hk4)) (((r2.ext e3 ow_Lk).ext e4 ow_Lk).ext e5 ow_Lk) fun H6 e6 S6 => ⟨rfl, q _ _ _ (.of ((((e1.trans e3).trans e4).trans e5).trans e6)) S6⟩
          rw [hσ] at hσ'; cases hσ'
          exact g
        obtain ⟨b', hσ', g⟩ := put_ok (Q := fun H4 => gCons (gSub (tVar i) (tV X.K (ev F eb)) rSetA) gNil [w2] σ H4 D.nx) S3 (ofO_inv ho3) (ofO_inv hs3) (l3.keep (ofO_inv hk3)) (r1.ext e3 ow_Lk) later
        rw [hσ] at hσ'; cases hσ'
        exact g
theorem PIp.or {op : Operator} {t t' : TIp} (h : PIp X op t) (h' : PIp X op t') : PIp X op (fun x y H Q => t x y H Q ∨ t' x y H Q) := fun pins s σ H x y v u Q I r1 r2 z => z.elim (h pins s σ H x y v u Q I r1 r2) (h' pins s σ H x y v u Q I r1 r2)
def augB : Bo → Bool
  | .add => true
  | .sub => true
  | .fdiv => true
  | _ => false
theorem s_aug {i : Nat} {x : Str} {px : Pos} {op : Bo} (c : SCx X F G) (hs : X.env.scope = sc) (hi : X.N[i]? = some x) (hl : locB sc x = true) (hop : augB op = true) (he : PE X e (tV X.K (ev F ee))) :
    PS X (.AugAssign (.Name x px) op.py e pos) (tS X.K (evS F (.aug op i ee))) := by
  have hx : Loc X.env.scope x := by
    rw [hs]
    unfold locB at hl
    rw [Bool.or_eq_true, decide_eq_true_eq, decide_eq_true_eq] at hl
    exact hl
  have key : ∀ (C : Int → Int → Prop) (f : Int → Int → Int), PIp X op.py (rI C fun i j => .int (f i j)) → (∀ a b z, augD op a b = some z → ∃ m n, a = .int m ∧ b = .int n ∧ C m n ∧ z = .int (f m n)) → PS X (.AugAssign (.Name x px) op.py e pos) (tS X.K (evS F (.aug op i ee))) := fun C f hf hz => by
    refine PS.impL (ps_aug c.nd hi hx he hf (c.may x)) fun D σ H hl ⟨W, A, ρ, fl, S, hev, q⟩ => ?_
    unfold evS at hev
    obtain ⟨s, hs, hev⟩ := bnd_inv hev
    cases s with
    | m o => cases hev
    | p o => cases hev
    | f g x => cases hev
    | v d =>
      obtain ⟨⟨r, ρ1⟩, h1, hev⟩ := bnd_inv hev
      obtain ⟨y, hy, hev⟩ := bnd_inv hev
      obtain ⟨z, hz1, hev⟩ := bnd_inv hev
      cases hev
      obtain ⟨m, n, rfl, rfl, hC, rfl⟩ := hz _ _ _ (ofO_inv hz1)
      obtain ⟨w, hw, _, rw'⟩ := S.slots i _ (ofO_inv hs)
      cases rw'.int_inv
      refine ⟨_, hw, tV.mk S h1 fun v H1 e1 S1 l1 => ?_⟩
      cases (l1.keep (ofO_inv hy)).int_inv
      refine ⟨m, n, rfl, rfl, hC, ?_⟩
      exact q _ _ _ (.drop e1) (S1.bind (by rw [← S1.lenS, hl]; exact lt_of hi) (.int _))
  cases op with
  | add =>
    refine PS.impL (ps_aug c.nd hi hx he (PIp.or ip_add ip_tup) (c.may x)) fun D σ H hl ⟨W, A, ρ, fl, S, hev, q⟩ => ?_
    unfold evS at hev
    obtain ⟨s, hs, hev⟩ := bnd_inv hev
    cases s with
    | m o => cases hev
    | p o => cases hev
    | f g x => cases hev
    | v d =>
      obtain ⟨⟨r, ρ1⟩, h1, hev⟩ := bnd_inv hev
      obtain ⟨y, hy, hev⟩ := bnd_inv hev
      obtain ⟨z, hz1, hev⟩ := bnd_inv hev
      cases hev
      obtain ⟨w, hw, _, rw'⟩ := S.slots i _ (ofO_inv hs)
      refine ⟨_, hw, tV.mk S h1 fun v H1 e1 S1 l1 => ?_⟩
      have ry := l1.keep (ofO_inv hy)
      have rx := rw'.ext e1 ow_Lk
      have li : i < ρ1.length := by rw [← S1.lenS, hl]; exact lt_of hi
      replace hz1 := ofO_inv hz1
      cases d with
      | int m =>
        cases y with
        | int n =>
          cases hz1
          cases rx.int_inv
          cases ry.int_inv
          exact .inl ⟨_, _, rfl, rfl, q _ _ _ (.drop e1) (S1.bind li (.int _))⟩
        | _ => cases hz1
      | tuple xs =>
        cases y with
        | tuple ys =>
          have hz1 : (if xs.length + ys.length ≤ lim then some (PyData.tuple (xs ++ ys)) else none) = some z := hz1
          split at hz1
          · rename_i hle
            cases hz1
            obtain ⟨a, vs, rfl, ha, ra⟩ := (Top.of rx).tuple_inv
            obtain ⟨b, ws, rfl, hb, rb⟩ := (Top.of ry).tuple_inv
            refine .inr ⟨a, b, vs, ws, rfl, rfl, ha, hb, by rw [← ra.length, ← rb.length, ← lim_eq]; exact hle, fun e => ?_, fun _ e => ?_, fun _ _ p hp => ?_⟩
            · subst e
              cases ra
              exact q _ _ _ (.drop e1) (S1.bind li ry)
            · subst e
              cases rb
              rw [List.append_nil] at q
              exact q _ _ _ (.drop e1) (S1.bind li rx)
            · have n := newT hp (ra.append rb)
              exact q _ _ _ (.drop (e1.trans n.1.nil)) ((S1.grow n.1).bind li n.2)
          · cases hz1
        | _ => cases hz1
      | _ => cases hz1
  | sub =>
      refine key (fun _ _ => True) _ (fun pins s σ H x y v u Q I r1 r2 h => ip_sub pins s σ H x y v u Q I r1 r2 (by obtain ⟨a, b, e1, e2, _, q⟩ := h; exact ⟨a, b, e1, e2, q⟩)) fun a b z h => ?_
      cases a <;> first | (cases h; done) | (cases b <;> first | (cases h; done) | (cases h; exact ⟨_, _, rfl, rfl, trivial, rfl⟩))
  | fdiv =>
      refine key CDiv _ iop_fdiv fun a b z h => ?_
      cases a with
      | int m =>
        cases b with
        | int n =>
          have h : (if 0 < n ∧ n < 1073741824 then some (PyData.int (m / n)) else none) = some z := h
          split at h
          · rename_i hc
            cases h
            exact ⟨m, n, rfl, rfl, hc, rfl⟩
          · cases h
        | _ => cases h
      | _ => cases h
  | _ => cases hop
theorem aug_ok {o i : Expr} (hi : sliceB i = false) : ∀ ov iv new, augStore i ov iv new = (do holding [new, ov, iv] (setItem ov iv new); release [new, ov, iv] []; pure .next) := by
  intro ov iv new
  cases i <;> first | rfl | cases hi
/-- o[i] += e, a list of whole numbers -/
theorem s_sga {i : Nat} {o ix : Expr} {p : Pos} {ea : E} (c : SCx X F G) (hsl : sliceB ix = false) (ho : PE X o (tVar i)) (ha : PE X ix (tV X.K (ev F ea))) (he : PE X e (tV X.K (ev F ee))) :
    PS X (.AugAssign (.Subscript o ix p) .Add e pos) (tS X.K (evS F (.sga i ea ee))) := by
  have u := c.units
  refine PS.imp (ps_augS ho ha get_list he ip_add (set_any (by omega)) (aug_ok (o := o) hsl)) fun D σ H ⟨W, A, ρ, fl, S, hev, q⟩ => ?_
  unfold evS at hev
  obtain ⟨o00, ho00, hev⟩ := bnd_inv hev
  obtain ⟨⟨r1, ρ1⟩, h1, hev⟩ := bnd_inv hev
  obtain ⟨k, hk, hev⟩ := bnd_inv hev
  obtain ⟨m, hm, hev⟩ := bnd_inv hev
  obtain ⟨o1, ho1, hev⟩ := bnd_inv hev
  obtain ⟨old, hold, hev⟩ := bnd_inv hev
  obtain ⟨n, hn, hev⟩ := bnd_inv hev
  obtain ⟨⟨r2, ρ2⟩, h2, hev⟩ := bnd_inv hev
  obtain ⟨d, hd, hev⟩ := bnd_inv hev
  obtain ⟨z, hz, hev⟩ := bnd_inv hev
  obtain ⟨o2, ho2, hev⟩ := bnd_inv hev
  obtain ⟨o3, hset, hev⟩ := bnd_inv hev
  cases hev
  obtain ⟨a, hσ⟩ := own_chg_ext S (ofO_inv ho00)
  refine ⟨.ref a, hσ, ?_⟩
  refine tV.mk S h1 fun v1 H1 e1 S1 l1 => ?_
  obtain rfl := asInt_of (l1.keep (ofO_inv hk)) hm
  obtain ⟨a', hA, hσ', mo⟩ := S1.own_at (ofO_inv ho1)
  rw [hσ] at hσ'; cases hσ'
  replace hold := ofO_inv hold
  cases mo with
  | d h r => cases hold
  | l h r =>
    obtain ⟨w, w1, w2⟩ := atI_rep r hold
    obtain rfl := asInt_of w2 hn
    refine ⟨a, _, m, _, rfl, rfl, .inl (.inl h), w1, ?_⟩
    refine tV.mk S1 h2 fun v2 H2 e2 S2 l2 => ?_
    obtain rfl := asInt_of (l2.keep (ofO_inv hd)) hz
    refine ⟨n, z, rfl, rfl, ?_⟩
    obtain ⟨a', hσ', g⟩ := put_ok (Q := fun H3 => D.nx σ H3) S2 (ofO_inv ho2) (ofO_inv hset) (.int m) (.int (n + z)) fun H' e3 S3 => q _ _ _ (.of ((e1.trans e2).trans e3)) S3
    rw [hσ] at hσ'; cases hσ'
    exact g
/-- o[i], y = u, v -/
theorem s_sxn {i j : Nat} {o1 ia ex ey : Expr} {y : Str} {p1 py tp vp : Pos} {k1 k2 : Nat} {ea eex eey : E} (c : SCx X F G) (hs : X.env.scope = sc) (hj : X.N[j]? = some y) (hl : locB sc y = true) (nm : isName o1 = true)
    (v1 : PE X o1 (tVar i)) (s1 : sliceB ia = false) (ha : PE X ia (tV X.K (ev F ea))) (hx : PE X ex (tV X.K (ev F eex))) (hy : PE X ey (tV X.K (ev F eey))) (sx : starB ex = false) (sy : starB ey = false)
    (hw : swappedStores [.Tuple [.Subscript o1 ia p1, .Name y py] k1 tp] (.Tuple [ex, ey] k2 vp) X.env = pure none) :
    PS X (.Assign [.Tuple [.Subscript o1 ia p1, .Name y py] k1 tp] (.Tuple [ex, ey] k2 vp) pos) (tS X.K (evS F (.sxn i j ea eex eey))) := by
  have u := c.units
  have hloc : Loc X.env.scope y := by
    rw [hs]
    unfold locB at hl
    rw [Bool.or_eq_true, decide_eq_true_eq, decide_eq_true_eq] at hl
    exact hl
  have g1 : PG X (.Subscript o1 ia p1) (gSub (tVar i) (tV X.K (ev F ea)) rSetA) := pg_sub v1 ha (set_any (by omega)) (asub_ok nm s1)
  have g2 : PG X (.Name y py) (gName j) := pg_name c.nd hj hloc (c.may y)
  have gg : PG X (.Tuple [.Subscript o1 ia p1, .Name y py] k1 tp) (gTup X.K 2 (gCons (gSub (tVar i) (tV X.K (ev F ea)) rSetA) (gCons (gName j) gNil))) := pg_tup c.calm (pgs_cons g1 (pgs_cons g2 pgs_nil rfl) rfl) rfl rfl
  refine PS.impL (ps_asg (e_tup (k := k2) (pos := vp) (k_cons hx (k_cons hy k_nil sy) sx)) gg rfl hw) fun D σ H hl2 ⟨W, A, ρ, fl, S, hev, q⟩ => ?_
  unfold evS at hev
  obtain ⟨⟨rx, ρ1⟩, h1, hev⟩ := bnd_inv hev
  obtain ⟨dx, hdx, hev⟩ := bnd_inv hev
  obtain ⟨⟨ry, ρ2⟩, h2, hev⟩ := bnd_inv hev
  obtain ⟨dy, hdy, hev⟩ := bnd_inv hev
  obtain ⟨o00, ho00, hev⟩ := bnd_inv hev
  obtain ⟨⟨r3, ρ3⟩, h3, hev⟩ := bnd_inv hev
  obtain ⟨k3, hk3, hev⟩ := bnd_inv hev
  obtain ⟨o30, ho3, hev⟩ := bnd_inv hev
  obtain ⟨o31, hs3, hev⟩ := bnd_inv hev
  cases hev
  have et : ev F (.tup (.cons eex (.cons eey .nil))) ρ = .ok (.v (.tuple [dx, dy]), ρ2) := by
    simp only [ev.eq_7, evK_two h1 h2 (ofO_inv hdx) (ofO_inv hdy), bnd_ok]
    exact if_pos (show 2 ≤ lim by decide)
  refine tV.mk S et fun v H1 e1 S1 l1 => ?_
  cases l1 with
  | tup hT rr =>
    rename_i a vs
    cases rr with
    | cons r1 rr =>
      cases rr with
      | cons r2 rr =>
        cases rr
        rename_i w1 w2
        obtain ⟨b, hσ⟩ := own_chg_ext S1 (ofO_inv ho00)
        refine ⟨a, [w1, w2], rfl, hT, rfl, w1, [w2], rfl, .ref b, hσ, ?_⟩
        refine tV.mk S1 h3 fun v3 H3 e3 S3 l3 => ?_
        obtain ⟨b', hσ', g⟩ := put_ok (Q := fun H4 => gCons (gName j) gNil [w2] σ H4 D.nx) S3 (ofO_inv ho3) (ofO_inv hs3) (l3.keep (ofO_inv hk3)) (r1.ext e3 ow_Lk) fun H4 e4 S4 => by
          have lj : j < (chg ρ3 i o31).length := by rw [← S4.lenS, hl2]; exact lt_of hj
          exact ⟨w2, [], rfl, rfl, q _ _ _ (.drop ((e1.trans e3).trans e4)) (S4.bind lj ((r2.ext e3 ow_Lk).ext e4 ow_Lk))⟩
        rw [hσ] at hσ'; cases hσ'
        exact g
/-- an own object frozen ahead of a statement -/
theorem s_fz {i : Nat} {st : Stmt} {s : S} (h : PS X st (tS X.K (evS F s))) : PS X st (tS X.K (evS F (.fz i s))) := by
  refine PS.imp h fun D σ H ⟨W, A, ρ, fl, S, hev, q⟩ => ?_
  unfold evS at hev
  split at hev
  · rename_i o ho
    obtain ⟨w, hw, b, h2, rfl, h0, mo⟩ := S.slots i _ ho
    obtain ⟨u, hu, ht⟩ := mo.mut
    have S2 := S.lend (u := u) h2 hu ht
    have hsame : upd H b u = H := by
      funext c
      by_cases y : c = b
      · subst y; rw [upd_same, hu]
      · rw [upd_ne y]
    rw [hsame] at S2
    have S3 : Sim X.K W (A.set i none) H (ρ.set i none) σ := S2.less (W := { W with D := b :: W.D }) fun c z => List.mem_cons_of_mem _ z
    have sub : ∀ c, c ∈ Lk W (A.set i none) → c ∈ Lk W A := fun c z => by
      rcases List.mem_append.mp z with z | z
      · exact List.mem_append_left _ z
      · exact ow_Lk _ (ow_none z)
    have nb : b ∉ Lk W (A.set i none) := fun z => by
      rcases List.mem_append.mp z with z | z
      · exact S.dsj i b h2 z
      · obtain ⟨j, hj⟩ := ow_at2 z
        exact S2.dsj j b hj List.mem_cons_self
    have rm : Rep X.K (Lk W (A.set i none)) H o.data (.ref b) := (mo.sub sub).rep nb
    have li : i < (ρ.set i none).length := by rw [List.length_set]; exact slot_lt ho
    have S4 := S3.bind li rm
    have eσ : σ.set i (some (.ref b)) = σ := by
      refine List.ext_getElem? fun j => ?_
      by_cases e : i = j
      · subst e
        rw [hw, List.getElem?_set_self (List.getElem?_eq_some_iff.mp hw).1]
      · rw [List.getElem?_set_ne e]
    rw [eσ, List.set_set, List.set_set] at S4
    exact ⟨W, A.set i none, _, fl, S4, hev, q.grow (.drop (Ext.refl _ _))⟩
  · cases hev
theorem s_exp (hn : noComp e = true) (he : PE X e (tV X.K (ev F ee))) : PS X (.Expr e pos) (tS X.K (evS F (.exp ee))) := by
  refine PS.imp (ps_expr he (sw_no hn none pos.line X.env)) fun D σ H ⟨W, A, ρ, fl, S, hev, q⟩ => ?_
  unfold evS at hev
  obtain ⟨⟨r, ρ1⟩, h1, hev⟩ := bnd_inv hev
  cases hev
  exact tV.mk S h1 fun v H1 e1 S1 l1 => q _ _ _ (.of e1) S1
theorem s_ret (he : PE X e (tV X.K (ev F ee))) : PS X (.Return (some e) pos) (tS X.K (evS F (.ret ee))) := by
  refine PS.imp (ps_ret he) fun D σ H ⟨W, A, ρ, fl, S, hev, q⟩ => ?_
  unfold evS at hev
  obtain ⟨⟨r, ρ1⟩, h1, hev⟩ := bnd_inv hev
  refine ⟨W, A, ρ, r, ρ1, S, h1, fun v H1 e1 p => ?_⟩
  cases r with
  | f g x => cases hev
  | mt o d => cases hev
  | v d =>
    cases hev
    exact q _ A σ _ (.of e1) p
  | m o =>
    cases hev
    obtain ⟨a, rfl, hn, S', m⟩ := p
    exact q _ A σ _ (.of e1) ⟨a, rfl, S.ext0.dom a hn, S', m⟩
  | b k =>
    obtain ⟨S1, hσ, a, hA⟩ := p
    have hev : (match slot ρ1 k with
      | some (.m o) => Res.ok (Fl.ret (.m o) (ρ1.set k none))
      | _ => .bad) = .ok fl := hev
    split at hev
    · rename_i o ho
      cases hev
      obtain ⟨w, hw, b, h2, rfl, h0, mo⟩ := S1.slots k _ ho
      rw [hA] at h2; cases h2
      rw [hσ] at hw; cases hw
      obtain ⟨u, hu, ht⟩ := mo.mut
      have S2 := S1.lend (u := u) hA hu ht
      have hsame : upd H1 a u = H1 := by
        funext b
        by_cases y : b = a
        · subst y; rw [upd_same, hu]
        · rw [upd_ne y]
      rw [hsame] at S2
      refine q _ (A.set k none) σ _ (.drop e1) ⟨a, rfl, h0, S2, mo.sub fun b hb => ?_⟩
      rcases List.mem_append.mp hb with hb | hb
      · rcases List.mem_cons.mp hb with hb | hb
        · subst hb; exact ow_Lk _ (at2_ow hA)
        · exact List.mem_append_left _ hb
      · exact ow_Lk _ (ow_none hb)
    · cases hev
theorem name_star {n : Expr} (h : isName n = true) : starB n = false := by
  cases n <;> first | rfl | cases h
/-- a return of a list of one's own, and of a value -/
theorem s_rtt {i k : Nat} {n : Expr} {tp : Pos} (hn : PE X n (tVar i)) (he : PE X e (tV X.K (ev F ee))) (hb : starB n = false) (hb2 : starB e = false) : PS X (.Return (some (.Tuple [n, e] k tp)) pos) (tS X.K (evS F (.rtt i ee))) := by
  refine PS.imp (ps_ret (pe_tup (pa_cons hn (pa_cons he pa_nil (star_one hb2)) (star_one hb)))) fun D σ H ⟨W, A, ρ, fl, S, hev, q⟩ => ?_
  unfold evS at hev
  split at hev
  · rename_i o0 hs0
    obtain ⟨⟨r, ρ1⟩, h1, hev⟩ := bnd_inv hev
    obtain ⟨d, hd, hev⟩ := bnd_inv hev
    obtain ⟨w, hw, _⟩ := S.slots i _ hs0
    refine ⟨w, hw, tV.mk S h1 fun v2 H1 e1 S1 l1 => ?_⟩
    have rd := l1.keep (ofO_inv hd)
    have hev : (match slot ρ1 i with
      | some (.m o) => Res.ok (Fl.ret (.v (.tuple [o.data, d])) (ρ1.set i none))
      | _ => .bad) = .ok fl := hev
    split at hev
    · rename_i o ho
      cases hev
      obtain ⟨w', hw', b, h2, rfl, h0, mo⟩ := S1.slots i _ ho
      rw [hw] at hw'; cases hw'
      obtain ⟨u, hu, ht⟩ := mo.mut
      have S2 := S1.lend (u := u) h2 hu ht
      have hsame : upd H1 b u = H1 := by
        funext c
        by_cases y : c = b
        · subst y; rw [upd_same, hu]
        · rw [upd_ne y]
      rw [hsame] at S2
      have S3 : Sim X.K W (A.set i none) H1 (ρ1.set i none) σ := S2.less (W := { W with D := b :: W.D }) fun c z => List.mem_cons_of_mem _ z
      have sub : ∀ c, c ∈ Lk W (A.set i none) → c ∈ Lk W A := fun c z => by
        rcases List.mem_append.mp z with z | z
        · exact List.mem_append_left _ z
        · exact ow_Lk _ (ow_none z)
      have nb : b ∉ Lk W (A.set i none) := fun z => by
        rcases List.mem_append.mp z with z | z
        · exact S1.dsj i b h2 z
        · obtain ⟨j, hj⟩ := ow_at2 z
          exact S2.dsj j b hj List.mem_cons_self
      have rm : Rep X.K (Lk W (A.set i none)) H1 o.data (.ref b) := (mo.sub sub).rep nb
      refine ⟨by rw [show ([V.ref b, v2] : List V).length = 2 from rfl, ← lim_eq]; decide, fun p hp => ?_⟩
      obtain ⟨p1, e2⟩ := (newT hp (.cons rm (.cons (rd.sub sub) .nil))).post S3 e1.dom
      exact q _ (A.set i none) σ _ (.drop (e1.trans e2.nil)) p1
    · cases hev
  · cases hev
/-- .. handed on to be owned -/
theorem s_rtm {i k : Nat} {n : Expr} {tp : Pos} (hn : PE X n (tVar i)) (he : PE X e (tV X.K (ev F ee))) (hb : starB n = false) (hb2 : starB e = false) : PS X (.Return (some (.Tuple [n, e] k tp)) pos) (tS X.K (evS F (.rtm i ee))) := by
  refine PS.imp (ps_ret (pe_tup (pa_cons hn (pa_cons he pa_nil (star_one hb2)) (star_one hb)))) fun D σ H ⟨W, A, ρ, fl, S, hev, q⟩ => ?_
  unfold evS at hev
  split at hev
  · rename_i o0 hs0
    obtain ⟨⟨r, ρ1⟩, h1, hev⟩ := bnd_inv hev
    obtain ⟨d, hd, hev⟩ := bnd_inv hev
    obtain ⟨w, hw, _⟩ := S.slots i _ hs0
    refine ⟨w, hw, tV.mk S h1 fun v2 H1 e1 S1 l1 => ?_⟩
    have rd := l1.keep (ofO_inv hd)
    have hev : (match slot ρ1 i with
      | some (.m o) => Res.ok (Fl.ret (.mt o d) (ρ1.set i none))
      | _ => .bad) = .ok fl := hev
    split at hev
    · rename_i o ho
      cases hev
      obtain ⟨w', hw', b, h2, rfl, h0, mo⟩ := S1.slots i _ ho
      rw [hw] at hw'; cases hw'
      obtain ⟨u, hu, ht⟩ := mo.mut
      have S2 := S1.lend (u := u) h2 hu ht
      have hsame : upd H1 b u = H1 := by
        funext c
        by_cases y : c = b
        · subst y; rw [upd_same, hu]
        · rw [upd_ne y]
      rw [hsame] at S2
      have sub : ∀ c, c ∈ Lk { W with D := b :: W.D } (A.set i none) → c ∈ Lk W A := fun c hc => by
        rcases List.mem_append.mp hc with hc | hc
        · rcases List.mem_cons.mp hc with hc | hc
          · subst hc; exact ow_Lk _ (at2_ow h2)
          · exact List.mem_append_left _ hc
        · exact ow_Lk _ (ow_none hc)
      refine ⟨by rw [show ([V.ref b, v2] : List V).length = 2 from rfl, ← lim_eq]; decide, fun p hp => ?_⟩
      have e2 := Ext.new (O := []) (.tup [V.ref b, v2]) hp
      have no : ∀ a, a ∈ ([] : List Addr) → a ∈ Lk { W with D := b :: W.D } (A.set i none) := fun a z => absurd z (by simp)
      exact q _ (A.set i none) σ _ (.drop (e1.trans (e2.mono fun a z => absurd z (by simp)))) ⟨p, b, v2, rfl, .inl (.inl upd_same), h0, S2.grow e2, (mo.sub sub).ext e2 no fun u q => e2.keep _ _ q (.inl (by simp)), (rd.sub sub).ext e2 no⟩
    · cases hev
  · cases hev
theorem s_tpo {i j : Nat} {es : List Expr} {k : Nat} {tp : Pos} (hi : i < X.N.length) (hj : j < X.N.length) (he : PE X e (tV X.K (ev F ee))) (hg : PG X (.Tuple es k tp) (gTup X.K 2 (gAll [i, j]))) (hw : swappedStores [.Tuple es k tp] e X.env = pure none) :
    PS X (.Assign [.Tuple es k tp] e pos) (tS X.K (evS F (.tpo i j ee))) := by
  refine PS.impL (ps_asg he hg (sw_tup es k tp pos.line X.env) hw) fun D σ H hl ⟨W, A, ρ, fl, S, hev, q⟩ => ?_
  unfold evS at hev
  obtain ⟨⟨r, ρ1⟩, h1, hev⟩ := bnd_inv hev
  cases r with
  | v d => cases hev
  | m o => cases hev
  | b i => cases hev
  | f g x => cases hev
  | mt o d =>
    have hev : (if i = j then Res.bad else .ok (.nxt ((ρ1.set i (some (.m o))).set j (some (.v d))))) = .ok fl := hev
    split at hev
    · cases hev
    · rename_i hij
      cases hev
      refine ⟨W, A, ρ, .mt o d, ρ1, S, h1, fun v H' e p => ?_⟩
      have hlen := p.len
      obtain ⟨pp, a, v2, rfl, hT, hn, S', m, rd⟩ := p
      have S3 := S'.take (fun z => S.lck a z hn) (i := i) (by rw [← hlen, hl]; exact hi) (S.ext0.dom a hn) m
      have owA : ∀ b, b ∈ ow (A.set i (some a)) → b ∈ ow A ∨ b = a := fun b hb => by
        obtain ⟨c, ec⟩ := ow_at2 hb
        by_cases hA : i < A.length
        · rw [at2_set hA] at ec
          by_cases z : c = i
          · rw [if_pos z] at ec; cases ec; exact .inr rfl
          · rw [if_neg z] at ec; exact .inl (at2_ow ec)
        · rw [List.set_eq_of_length_le (by omega)] at ec
          exact .inl (at2_ow ec)
      have sub : ∀ c, c ∈ Lk W (A.set i (some a)) → c ∈ Lk { W with D := a :: W.D } A := fun c hc => by
        rcases List.mem_append.mp hc with hc | hc
        · exact List.mem_append_left _ (List.mem_cons_of_mem _ hc)
        · rcases owA c hc with hc | hc
          · exact List.mem_append_right _ hc
          · subst hc; exact List.mem_append_left _ List.mem_cons_self
      have S4 := S3.bind (i := j) (d := d) (v := v2) (by rw [List.length_set, ← hlen, hl]; exact hj) (rd.sub sub)
      refine ⟨pp, _, rfl, hT, rfl, gAll_of rfl (q _ _ _ ⟨e, fun b hb => ?_⟩ S4)⟩
      rcases owA b (ow_none hb) with hb | hb
      · exact .inl hb
      · subst hb; exact .inr hn
theorem s_retN : PS X (.Return none pos) (tS X.K (evS F .retN)) := by
  refine PS.imp ps_retN fun D σ H ⟨W, A, ρ, fl, S, hev, q⟩ => ?_
  unfold evS at hev
  cases hev
  exact q _ A σ H (.refl _ _) ⟨S, .non⟩
theorem s_brk : PS X (.Break pos) (tS X.K (evS F .brk)) := by
  refine PS.imp ps_break fun D σ H ⟨W, A, ρ, fl, S, hev, q⟩ => ?_
  unfold evS at hev
  cases hev
  exact q A σ H (.refl _ _) S
theorem s_cnt : PS X (.Continue pos) (tS X.K (evS F .cnt)) := by
  refine PS.imp ps_continue fun D σ H ⟨W, A, ρ, fl, S, hev, q⟩ => ?_
  unfold evS at hev
  cases hev
  exact q A σ H (.refl _ _) S
theorem s_pss : PS X (.Pass pos) (tS X.K (evS F .pss)) := by
  refine PS.imp ps_pass fun D σ H ⟨W, A, ρ, fl, S, hev, q⟩ => ?_
  unfold evS at hev
  cases hev
  exact q A σ H (.refl _ _) S
theorem ss_nil : PSs X [] (tS X.K (evSs F .nil)) := by
  refine PSs.imp pss_nil fun D σ H ⟨W, A, ρ, fl, S, hev, q⟩ => ?_
  unfold evSs at hev
  cases hev
  exact q A σ H (.refl _ _) S
theorem ss_cons {st : Stmt} {r : List Stmt} {s : S} {ss : Ss} (h1 : PS X st (tS X.K (evS F s))) (h2 : PSs X r (tS X.K (evSs F ss))) : PSs X (st :: r) (tS X.K (evSs F (.cons s ss))) := by
  refine PSs.imp (pss_cons h1 h2) fun D σ H ⟨W, A, ρ, fl, S, hev, q⟩ => ?_
  unfold evSs at hev
  obtain ⟨f, h3, hev⟩ := bnd_inv hev
  refine ⟨W, A, ρ, f, S, h3, ?_⟩
  cases f with
  | nxt ρ1 => exact fun A' σ' H' g S' => ⟨W, A', ρ1, fl, S', hev, q.grow g⟩
  | ret r ρ1 => cases hev; exact q
  | brk ρ1 => cases hev; exact q
  | cnt ρ1 => cases hev; exact q
theorem s_iff {c : Expr} {a b : List Stmt} {ec : E} {sa sb : Ss} (hc : PT X c (tB2 X.K (evB F ec))) (ha : PSs X a (tS X.K (evSs F sa))) (hb : PSs X b (tS X.K (evSs F sb))) : PS X (.If c a b pos) (tS X.K (evS F (.iff ec sa sb))) := by
  refine PS.imp (ps_if hc ha hb) fun D σ H ⟨W, A, ρ, fl, S, hev, q⟩ => ?_
  unfold evS at hev
  obtain ⟨⟨r, ρ1⟩, h1, he1⟩ := bnd_inv hev
  obtain ⟨k, hk, he2⟩ := bnd_inv he1
  have hz := isB_inv hk
  clear hev he1 hk
  subst hz
  refine tB2.mk S (evB_of h1) fun H1 e1 S1 => ?_
  cases k with
  | true =>
    rw [if_pos rfl] at he2
    exact iteT ⟨W, A, ρ1, fl, S1, he2, q.grow (.of e1)⟩
  | false =>
    rw [if_neg Bool.false_ne_true] at he2
    exact iteF ⟨W, A, ρ1, fl, S1, he2, q.grow (.of e1)⟩
theorem s_for {iter t : Expr} {body : List Stmt} {tg : Tg} {it : It} {sb : Ss} (c : SCx X F G) (hset : setB iter = false) (hi : PI X t iter (tI X.K (evI F it))) (hg : PG X t (tG X.K tg)) (hb : PSs X body (tS X.K (evSs F sb))) :
    PS X (.For t iter body [] pos) (tS X.K (evS F (.for tg it sb))) := by
  refine PS.imp (ps_for c.pass c.calm hi hg hb (fold_of hset X.env)) fun D σ H ⟨W, A, ρ, fl, S, hev, q⟩ => ?_
  unfold evS at hev
  obtain ⟨⟨xs, ρ1⟩, h1, hev⟩ := bnd_inv hev
  refine ⟨W, A, ρ, xs, ρ1, S, h1, fun J vs H1 e1 S1 rv wk => ?_⟩
  have lv := rv.length
  let turns := forR (bindTg tg) (evSs F sb)
  let Pv : Nat → St → Hp → Prop := fun i σ' H' => ∃ A' ρi, Sim X.K W A' H' ρi σ' ∧ Grow A H1 A' H' ∧ turns (xs.drop i) ρi = .ok fl
  have q1 := q.grow (.of e1)
  refine ⟨fun i m σ' H' => m = vs.length - i ∧ i ≤ vs.length ∧ Pv i σ' H', ⟨vs.length, by simp, Nat.zero_le _, A, ρ1, S1, .refl _ _, hev⟩, ?_⟩
  rintro i m σ' H' ⟨rfl, hi, A', ρi, Si, g, ht⟩
  obtain ⟨w1, w2, w3⟩ := (wk.mono ow_Lk).at_ i H' g.ext
  by_cases hlt : i < vs.length
  · refine .inr ⟨w2 hlt, Pv (i + 1), fun σ'' H'' p' => ⟨vs.length - (i + 1), by omega, rfl, hlt, p'⟩, fun x H2 y => ?_⟩
    obtain ⟨rfl, hx⟩ := w3 x H2 hlt y
    obtain ⟨d, hd, rd⟩ := rv.get' hx
    have hdrop : xs.drop i = d :: xs.drop (i + 1) := by
      obtain ⟨h1, h2⟩ := List.getElem?_eq_some_iff.mp hd
      rw [List.drop_eq_getElem_cons h1, h2]
    rw [hdrop] at ht
    have ht : ((ofO (bindTg tg d ρi)).bnd fun ρ1 => (evSs F sb ρ1).bnd fun f => match f with
      | .nxt ρ2 => turns (xs.drop (i + 1)) ρ2
      | .cnt ρ2 => turns (xs.drop (i + 1)) ρ2
      | .brk ρ2 => .ok (.nxt ρ2)
      | .ret r ρ2 => .ok (.ret r ρ2)) = .ok fl := ht
    obtain ⟨ρa, ha, ht⟩ := bnd_inv ht
    obtain ⟨f, hf, ht⟩ := bnd_inv ht
    refine ⟨W, A', ρi, d, ρa, Si, g.rep rd, ofO_inv ha, fun σ2 S2 _ _ => ⟨W, A', ρa, f, S2, hf, ?_⟩⟩
    cases f with
    | nxt ρ2 => exact fun A2 σ3 H3 g3 S3 => ⟨A2, ρ2, S3, g.trans g3, ht⟩
    | cnt ρ2 => exact fun A2 σ3 H3 g3 S3 => ⟨A2, ρ2, S3, g.trans g3, ht⟩
    | brk ρ2 =>
      cases ht
      exact fun A2 σ3 H3 g3 S3 => q1 A2 σ3 H3 (g.trans g3) S3
    | ret r ρ2 =>
      cases ht
      exact fun v A2 σ3 H3 g3 S3 => q1 v A2 σ3 H3 (g.trans g3) S3
  · have ei : i = vs.length := by omega
    subst ei
    have hdrop : xs.drop vs.length = [] := List.drop_eq_nil_of_le (by omega)
    rw [hdrop] at ht
    have ht : Res.ok (Fl.nxt ρi) = .ok fl := ht
    cases ht
    exact .inl ⟨w1 (Nat.le_refl _), q1 A' σ' H' g Si⟩
theorem s_whl {c : Expr} {body : List Stmt} {ec : E} {sb : Ss} (cx : SCx X F G) (hc : PT X c (tB2 X.K (evB F ec))) (hb : PSs X body (tS X.K (evSs F sb))) :
    PS X (.While c body [] pos) (tS X.K (evS F (.whl ec sb))) := by
  refine PS.imp (ps_while cx.pass hc hb) fun D σ H ⟨W, A, ρ, fl, S, hev, q⟩ => ?_
  unfold evS at hev
  generalize fuel = n0 at hev
  let turns := whileR (ev F ec) (evSs F sb)
  let Pv : Nat → St → Hp → Prop := fun m σ' H' => ∃ A' ρi, Sim X.K W A' H' ρi σ' ∧ Grow A H A' H' ∧ turns m ρi = .ok fl
  refine ⟨Pv, ⟨n0, A, ρ, S, .refl _ _, hev⟩, ?_⟩
  rintro m σ' H' ⟨A', ρi, Si, g, ht⟩
  cases m with
  | zero => cases ht
  | succ m =>
    have ht : (ev F ec ρi).bnd (fun (x, ρ1) => (ofO (isB x)).bnd fun b => if b = true then (evSs F sb ρ1).bnd fun f => match f with
        | .nxt ρ2 => turns m ρ2
        | .cnt ρ2 => turns m ρ2
        | .brk ρ2 => .ok (.nxt ρ2)
        | .ret r ρ2 => .ok (.ret r ρ2)
      else .ok (.nxt ρ1)) = .ok fl := ht
    obtain ⟨⟨x, ρ1⟩, h0, ht⟩ := bnd_inv ht
    obtain ⟨b, hb0, ht⟩ := bnd_inv ht
    cases isB_inv hb0
    have h1 := evB_of h0
    refine tB2.mk Si h1 fun H1 e1 S1 => ?_
    have g1 := g.trans (Grow.of e1)
    cases b with
    | false =>
      have ht : Res.ok (Fl.nxt ρ1) = .ok fl := ht
      cases ht
      exact iteF (q _ _ _ g1 S1)
    | true =>
      have ht : ((evSs F sb ρ1).bnd fun f => match f with
        | .nxt ρ2 => turns m ρ2
        | .cnt ρ2 => turns m ρ2
        | .brk ρ2 => .ok (.nxt ρ2)
        | .ret r ρ2 => .ok (.ret r ρ2)) = .ok fl := ht
      obtain ⟨f, hf, ht⟩ := bnd_inv ht
      refine iteT ⟨Pv m, fun σ2 H2 p => ⟨m, Nat.lt_succ_self m, p⟩, W, A', ρ1, f, S1, hf, ?_⟩
      cases f with
      | nxt ρ2 => exact fun A2 σ3 H3 g3 S3 => ⟨A2, ρ2, S3, g1.trans g3, ht⟩
      | cnt ρ2 => exact fun A2 σ3 H3 g3 S3 => ⟨A2, ρ2, S3, g1.trans g3, ht⟩
      | brk ρ2 =>
        cases ht
        exact fun A2 σ3 H3 g3 S3 => q A2 σ3 H3 (g1.trans g3) S3
      | ret r ρ2 =>
        cases ht
        exact fun v A2 σ3 H3 g3 S3 => q v A2 σ3 H3 (g1.trans g3) S3
end
end Rf

set_option Elab.async false
set_option linter.all false
set_option maxRecDepth 100000
set_option maxHeartbeats 8000000
/-! Rf16: every checked statement. -/
namespace Rf
open PySem PySem.Spec L2

def swN : Expr → Bool
  | .Tuple vs _ _ => vs.all (foldedForSure 8)
  | _ => true
/-- a target that is no plain local: no stores are swapped -/
def locE (sc : Scope) : Expr → Bool
  | .Name x _ => decide (sc.names.lookup x = some .local)
  | _ => false
section
variable (G : Gd) (N : List Str) (sc : Scope)
mutual
def ckS : S → Stmt → Bool
  | .set i e, .Assign [.Name x _] v _ => decide (N[i]? = some x) && locB sc x && ckE G N sc e v
  | .own i e, .Assign [.Name x _] v _ => decide (N[i]? = some x) && locB sc x && ckE G N sc e v
  | .par i j a b, .Assign [.Tuple [.Name x px, .Name y py] _ _] (.Tuple [u, v] _ _) _ => decide (N[i]? = some x) && decide (N[j]? = some y) && parB sc x y px py u v && ckE G N sc a u && ckE G N sc b v
  | .tpl is e, .Assign [.Tuple es k tp] v _ => ckTg N sc (.t is) (.Tuple es k tp) && (swN v || es.any fun x => !locE sc x) && ckE G N sc e v
  | .sit i a e, .Assign [.Subscript o ix _] v _ => nameB N sc i o && !sliceB ix && ckE G N sc a ix && ckE G N sc e v
  | .swp i a b c d, .Assign [.Tuple [.Subscript o1 ia _, .Subscript o2 ib _] _ _] (.Tuple [.Subscript o3 ic p3, .Subscript o4 id p4] _ _) _ =>
    nameB N sc i o1 && nameB N sc i o2 && isName o3 && isName o4 && !sliceB ia && !sliceB ib && ckE G N sc a ia && ckE G N sc b ib && ckE G N sc (.idx (.var i) c) (.Subscript o3 ic p3) && ckE G N sc (.idx (.var i) d) (.Subscript o4 id p4)
  | .aug op i e, .AugAssign (.Name x _) o v _ => decide (o = op.py) && augB op && decide (N[i]? = some x) && locB sc x && ckE G N sc e v
  | .exp e, .Expr v _ => noComp v && ckE G N sc e v
  | .iff c a b, .If x y z _ => ckE G N sc c x && ckSs a y && ckSs b z
  | .for tg it b, .For t iter body [] _ => !setB iter && ckTg N sc tg t && ckI G N sc it iter && ckSs b body
  | .whl c b, .While x body [] _ => ckE G N sc c x && ckSs b body
  | .ret e, .Return (some v) _ => ckE G N sc e v
  | .retN, .Return none _ => true
  | .brk, .Break _ => true
  | .cnt, .Continue _ => true
  | .pss, .Pass _ => true
  | .pr3 i j l a b c, .Assign [.Tuple [.Name x px, .Name y py, .Name z pz] _ _] (.Tuple [u, v, w] _ _) _ => decide (N[i]? = some x) && decide (N[j]? = some y) && decide (N[l]? = some z) && parB3 sc x y z px py pz u v w && ckE G N sc a u && ckE G N sc b v && ckE G N sc c w
  | .rtt i e, .Return (some (.Tuple [n, v] _ _)) _ => nameB N sc i n && !starB v && ckE G N sc e v
  | .rtm i e, .Return (some (.Tuple [n, v] _ _)) _ => nameB N sc i n && !starB v && ckE G N sc e v
  | .sxn i j a x y, .Assign [.Tuple [.Subscript o1 ia _, .Name n _] _ _] (.Tuple [u, v] _ _) _ => nameB N sc i o1 && decide (N[j]? = some n) && locB sc n && !sliceB ia && !starB u && !starB v && ckE G N sc a ia && ckE G N sc x u && ckE G N sc y v
  | .sga i a e, .AugAssign (.Subscript o ix _) op v _ => decide (op = Operator.Add) && nameB N sc i o && !sliceB ix && ckE G N sc a ix && ckE G N sc e v
  | .fz _ s, x => ckS s x
  | .tpo i j e, .Assign [.Tuple es _ _] v _ => tgsB N sc [i, j] es && swN v && ckE G N sc e v
  | _, _ => false
def ckSs : Ss → List Stmt → Bool
  | .nil, [] => true
  | .cons s ss, x :: xs => ckS s x && ckSs ss xs
  | _, _ => false
end
end
section
variable {F : Fn} {G : Gd} {N : List Str} {sc : Scope} {X : Cx}
theorem sw_tpl {es : List Expr} {k : Nat} {tp : Pos} {v : Expr} {env : PySem.Env} (h : swN v = true) : swappedStores [.Tuple es k tp] v env = pure none := by
  cases v <;> first | rfl | skip
  rename_i vs k2 p2
  have h : vs.all (foldedForSure 8) = true := h
  unfold swappedStores
  dsimp only
  split
  · rfl
  · split
    · rfl
    · split
      · rfl
      · first | rfl | rw [if_pos h]
theorem filterMap_all {α β : Type} {f : α → Option β} : ∀ {l : List α}, (l.filterMap f).length = l.length → ∀ a ∈ l, (f a).isSome = true
  | [], _, a, h => by cases h
  | b :: l, h, a, ha => by
    have le := List.length_filterMap_le f l
    cases e : f b with
    | none =>
      rw [List.filterMap_cons_none e, List.length_cons] at h
      omega
    | some y =>
      rw [List.filterMap_cons_some e, List.length_cons, List.length_cons] at h
      rcases List.mem_cons.mp ha with rfl | ha
      · rw [e]; rfl
      · exact filterMap_all (by omega) a ha
theorem sw_tpl2 {es : List Expr} {k : Nat} {tp : Pos} {v : Expr} {env : PySem.Env} (h : (es.any fun x => !locE env.scope x) = true) : swappedStores [.Tuple es k tp] v env = pure none := by
  cases v <;> first | rfl | skip
  rename_i vs k2 p2
  obtain ⟨x, hx, hn⟩ := List.any_eq_true.mp h
  unfold swappedStores
  dsimp only
  split
  · rfl
  · split
    · rfl
    · split
      · rfl
      · rename_i hl
        exfalso
        refine hl ?_
        rw [Bool.or_eq_true]
        left
        rw [bne_iff_ne]
        intro e
        have q := filterMap_all e x hx
        cases x <;> first | (cases q; done) | skip
        rename_i y p
        have k1 : env.kindOf y = env.scope.names.lookup y := rfl
        have hn : decide (env.scope.names.lookup y = some .local) = false := n1 hn
        dsimp only at q
        split at q
        · rename_i z
          rw [Bool.and_eq_true, k1, beq_iff_eq] at z
          rw [decide_eq_false_iff_not] at hn
          exact hn z.1
        · cases q
theorem nd_ix {i : Nat} {x : Str} (hX : X.N = N) (h : decide (N[i]? = some x) = true) : X.N[i]? = some x := by rw [hX]; exact dx h
def AllS (F : Fn) (G : Gd) (N : List Str) (s : S) : Prop := ∀ (sc : Scope) (x : Stmt) (X : Cx), SCx X F G → X.N = N → X.env.scope = sc → ckS G N sc s x = true → PS X x (tS X.K (evS F s))
def AllSs (F : Fn) (G : Gd) (N : List Str) (s : Ss) : Prop := ∀ (sc : Scope) (x : List Stmt) (X : Cx), SCx X F G → X.N = N → X.env.scope = sc → ckSs G N sc s x = true → PSs X x (tS X.K (evSs F s))
section
variable (fit : FnFit F)
include fit
theorem os_set (i : Nat) (e : E) : AllS F G N (.set i e) := fun sc x X c hX hs h => by
  unfold ckS at h
  split at h <;> first | (rename_i hh; cases hh; done) | (rename_i hh _; cases hh; done) | skip
  · rename_i hh; cases hh
    obtain ⟨h, h3⟩ := a2 h
    obtain ⟨h1, h2⟩ := a2 h
    exact s_set (nd_ix hX h1) (asg_ok c hX hs (dx h1) h2 (okE fit) (okI fit) (okO fit) h3)
  · cases h
theorem os_own (i : Nat) (e : E) : AllS F G N (.own i e) := fun sc x X c hX hs h => by
  unfold ckS at h
  split at h <;> first | (rename_i hh; cases hh; done) | (rename_i hh _; cases hh; done) | skip
  · rename_i hh; cases hh
    obtain ⟨h, h3⟩ := a2 h
    obtain ⟨h1, h2⟩ := a2 h
    exact s_own (nd_ix hX h1) (asg_ok c hX hs (dx h1) h2 (okE fit) (okI fit) (okO fit) h3)
  · cases h
theorem os_par (i j : Nat) (a b : E) : AllS F G N (.par i j a b) := fun sc x X c hX hs h => by
  unfold ckS at h
  split at h <;> first | (rename_i hh; cases hh; done) | (rename_i hh _; cases hh; done) | skip
  · rename_i hh; cases hh
    obtain ⟨h, h5⟩ := a2 h
    obtain ⟨h, h4⟩ := a2 h
    obtain ⟨h, h3⟩ := a2 h
    obtain ⟨h1, h2⟩ := a2 h
    exact s_par c hs (nd_ix hX h1) (nd_ix hX h2) (okE fit a sc _ X c.toCtx hX hs h4).pe (okE fit b sc _ X c.toCtx hX hs h5).pe h3
  · cases h
theorem os_tpl (is : List Nat) (e : E) : AllS F G N (.tpl is e) := fun sc x X c hX hs h => by
  unfold ckS at h
  split at h <;> first | (rename_i hh; cases hh; done) | (rename_i hh _; cases hh; done) | skip
  · rename_i hh; cases hh
    obtain ⟨h, h3⟩ := a2 h
    obtain ⟨h1, h2⟩ := a2 h
    refine s_tpl (okE fit e sc _ X c.toCtx hX hs h3).pe (g_tg hX hs c.nd c.calm h1 fun i _ x _ => c.may x) ?_
    rcases Bool.or_eq_true_iff.mp h2 with z | z
    · exact sw_tpl z
    · exact sw_tpl2 (by rw [hs]; exact z)
  · cases h
theorem os_sit (i : Nat) (a e : E) : AllS F G N (.sit i a e) := fun sc x X c hX hs h => by
  unfold ckS at h
  split at h <;> first | (rename_i hh; cases hh; done) | (rename_i hh _; cases hh; done) | skip
  · rename_i hh; cases hh
    obtain ⟨h, h4⟩ := a2 h
    obtain ⟨h, h3⟩ := a2 h
    obtain ⟨h1, h2⟩ := a2 h
    exact s_sit c (nm_is h1) (n1 h2) (nm_var hX hs h1) (okE fit a sc _ X c.toCtx hX hs h3).pe (okE fit e sc _ X c.toCtx hX hs h4).pe
  · cases h
theorem os_swp (i : Nat) (a b d e : E) : AllS F G N (.swp i a b d e) := fun sc x X c hX hs h => by
  unfold ckS at h
  split at h <;> first | (rename_i hh; cases hh; done) | (rename_i hh _; cases hh; done) | skip
  · rename_i hh; cases hh
    obtain ⟨h, h10⟩ := a2 h
    obtain ⟨h, h9⟩ := a2 h
    obtain ⟨h, h8⟩ := a2 h
    obtain ⟨h, h7⟩ := a2 h
    obtain ⟨h, h6⟩ := a2 h
    obtain ⟨h, h5⟩ := a2 h
    obtain ⟨h, h4⟩ := a2 h
    obtain ⟨h, h3⟩ := a2 h
    obtain ⟨h1, h2⟩ := a2 h
    exact s_swp c (nm_is h1) (nm_is h2) h3 h4 (nm_var hX hs h1) (nm_var hX hs h2) (n1 h5) (n1 h6) (okE fit a sc _ X c.toCtx hX hs h7).pe (okE fit b sc _ X c.toCtx hX hs h8).pe
      (okE fit _ sc _ X c.toCtx hX hs h9).pe (okE fit _ sc _ X c.toCtx hX hs h10).pe
  · cases h
theorem os_aug (op : Bo) (i : Nat) (e : E) : AllS F G N (.aug op i e) := fun sc x X c hX hs h => by
  unfold ckS at h
  split at h <;> first | (rename_i hh; cases hh; done) | (rename_i hh _; cases hh; done) | skip
  · rename_i hh; cases hh
    obtain ⟨h, h5⟩ := a2 h
    obtain ⟨h, h4⟩ := a2 h
    obtain ⟨h, h3⟩ := a2 h
    obtain ⟨h1, h2⟩ := a2 h
    cases dx h1
    exact s_aug c hs (nd_ix hX h3) h4 h2 (okE fit e sc _ X c.toCtx hX hs h5).pe
  · cases h
theorem os_exp (e : E) : AllS F G N (.exp e) := fun sc x X c hX hs h => by
  unfold ckS at h
  split at h <;> first | (rename_i hh; cases hh; done) | (rename_i hh _; cases hh; done) | skip
  · rename_i hh; cases hh
    obtain ⟨h1, h2⟩ := a2 h
    exact s_exp h1 (okE fit e sc _ X c.toCtx hX hs h2).pe
  · cases h
theorem os_iff {e : E} {a b : Ss} (ia : AllSs F G N a) (ib : AllSs F G N b) : AllS F G N (.iff e a b) := fun sc x X c hX hs h => by
  unfold ckS at h
  split at h <;> first | (rename_i hh; cases hh; done) | (rename_i hh _; cases hh; done) | skip
  · rename_i hh; cases hh
    obtain ⟨h, h3⟩ := a2 h
    obtain ⟨h1, h2⟩ := a2 h
    exact s_iff (okE fit e sc _ X c.toCtx hX hs h1).pt (ia sc _ X c hX hs h2) (ib sc _ X c hX hs h3)
  · cases h
theorem os_for {tg : Tg} {it : It} {b : Ss} (ib : AllSs F G N b) : AllS F G N (.for tg it b) := fun sc x X c hX hs h => by
  unfold ckS at h
  split at h <;> first | (rename_i hh; cases hh; done) | (rename_i hh _; cases hh; done) | skip
  · rename_i hh; cases hh
    obtain ⟨h, h4⟩ := a2 h
    obtain ⟨h, h3⟩ := a2 h
    obtain ⟨h1, h2⟩ := a2 h
    exact s_for c (n1 h1) (okI fit it sc _ _ X c.toCtx hX hs h3) (g_tg hX hs c.nd c.calm h2 fun i _ x _ => c.may x) (ib sc _ X c hX hs h4)
  · cases h
theorem os_whl {e : E} {b : Ss} (ib : AllSs F G N b) : AllS F G N (.whl e b) := fun sc x X c hX hs h => by
  unfold ckS at h
  split at h <;> first | (rename_i hh; cases hh; done) | (rename_i hh _; cases hh; done) | skip
  · rename_i hh; cases hh
    obtain ⟨h1, h2⟩ := a2 h
    exact s_whl c (okE fit e sc _ X c.toCtx hX hs h1).pt (ib sc _ X c hX hs h2)
  · cases h
theorem os_ret (e : E) : AllS F G N (.ret e) := fun sc x X c hX hs h => by
  unfold ckS at h
  split at h <;> first | (rename_i hh; cases hh; done) | (rename_i hh _; cases hh; done) | skip
  · rename_i hh; cases hh
    exact s_ret (okE fit e sc _ X c.toCtx hX hs h).pe
  · cases h
theorem os_retN : AllS F G N .retN := fun sc x X c hX hs h => by
  unfold ckS at h
  split at h <;> first | (rename_i hh; cases hh; done) | (rename_i hh _; cases hh; done) | (cases h; done) | exact s_retN
theorem os_brk : AllS F G N .brk := fun sc x X c hX hs h => by
  unfold ckS at h
  split at h <;> first | (rename_i hh; cases hh; done) | (rename_i hh _; cases hh; done) | (cases h; done) | exact s_brk
theorem os_cnt : AllS F G N .cnt := fun sc x X c hX hs h => by
  unfold ckS at h
  split at h <;> first | (rename_i hh; cases hh; done) | (rename_i hh _; cases hh; done) | (cases h; done) | exact s_cnt
theorem os_pss : AllS F G N .pss := fun sc x X c hX hs h => by
  unfold ckS at h
  split at h <;> first | (rename_i hh; cases hh; done) | (rename_i hh _; cases hh; done) | (cases h; done) | exact s_pss
theorem os_pr3 (i j l : Nat) (a b e : E) : AllS F G N (.pr3 i j l a b e) := fun sc x X c hX hs h => by
  unfold ckS at h
  split at h <;> first | (rename_i hh; cases hh; done) | (rename_i hh _; cases hh; done) | skip
  · rename_i hh; cases hh
    obtain ⟨h, h7⟩ := a2 h
    obtain ⟨h, h6⟩ := a2 h
    obtain ⟨h, h5⟩ := a2 h
    obtain ⟨h, h4⟩ := a2 h
    obtain ⟨h, h3⟩ := a2 h
    obtain ⟨h1, h2⟩ := a2 h
    exact s_par3 c hs (nd_ix hX h1) (nd_ix hX h2) (nd_ix hX h3) (okE fit a sc _ X c.toCtx hX hs h5).pe (okE fit b sc _ X c.toCtx hX hs h6).pe (okE fit e sc _ X c.toCtx hX hs h7).pe h4
  · cases h
theorem os_rtt (i : Nat) (e : E) : AllS F G N (.rtt i e) := fun sc x X c hX hs h => by
  unfold ckS at h
  split at h <;> first | (rename_i hh; cases hh; done) | (rename_i hh _; cases hh; done) | skip
  · rename_i hh; cases hh
    obtain ⟨h, h3⟩ := a2 h
    obtain ⟨h1, h2⟩ := a2 h
    exact s_rtt (nm_var hX hs h1) (okE fit e sc _ X c.toCtx hX hs h3).pe (name_star (nm_is h1)) (n1 h2)
  · cases h
theorem os_rtm (i : Nat) (e : E) : AllS F G N (.rtm i e) := fun sc x X c hX hs h => by
  unfold ckS at h
  split at h <;> first | (rename_i hh; cases hh; done) | (rename_i hh _; cases hh; done) | skip
  · rename_i hh; cases hh
    obtain ⟨h, h3⟩ := a2 h
    obtain ⟨h1, h2⟩ := a2 h
    exact s_rtm (nm_var hX hs h1) (okE fit e sc _ X c.toCtx hX hs h3).pe (name_star (nm_is h1)) (n1 h2)
  · cases h
theorem tgs_ix {N : List Str} {sc : Scope} {i j : Nat} {es : List Expr} (h : tgsB N sc [i, j] es = true) : i < N.length ∧ j < N.length := by
  have ix : ∀ {i : Nat} {e : Expr}, tgB N sc i e = true → i < N.length := fun {i e} h => by
    unfold tgB at h
    split at h
    · exact lt_of (of_decide_eq_true (a2 h).1)
    · cases h
  match es, h with
  | [], h => cases h
  | [a], h =>
    have h : (tgB N sc i a && false) = true := h
    rw [Bool.and_false] at h; cases h
  | [a, b], h =>
    have h : (tgB N sc i a && (tgB N sc j b && true)) = true := h
    exact ⟨ix (a2 h).1, ix (a2 (a2 h).2).1⟩
  | a :: b :: c :: r, h =>
    have h : (tgB N sc i a && (tgB N sc j b && false)) = true := h
    rw [Bool.and_false, Bool.and_false] at h; cases h
theorem os_tpo (i j : Nat) (e : E) : AllS F G N (.tpo i j e) := fun sc x X c hX hs h => by
  unfold ckS at h
  split at h <;> first | (rename_i hh; cases hh; done) | (rename_i hh _; cases hh; done) | skip
  · rename_i hh; cases hh
    obtain ⟨h, h3⟩ := a2 h
    obtain ⟨h1, h2⟩ := a2 h
    obtain ⟨g1, g2, g3⟩ := tgs_list hX hs c.nd h1 fun i _ x _ => c.may x
    obtain ⟨i1, i2⟩ := tgs_ix fit h1
    exact s_tpo (by rw [hX]; exact i1) (by rw [hX]; exact i2) (okE fit e sc _ X c.toCtx hX hs h3).pe (pg_tup c.calm g1 g2 g3) (sw_tpl h2)
  · cases h
theorem os_sxn (i j : Nat) (a d e : E) : AllS F G N (.sxn i j a d e) := fun sc x X c hX hs h => by
  unfold ckS at h
  split at h <;> first | (rename_i hh; cases hh; done) | (rename_i hh _; cases hh; done) | skip
  · rename_i hh; cases hh
    obtain ⟨h, h9⟩ := a2 h
    obtain ⟨h, h8⟩ := a2 h
    obtain ⟨h, h7⟩ := a2 h
    obtain ⟨h, h6⟩ := a2 h
    obtain ⟨h, h5⟩ := a2 h
    obtain ⟨h, h4⟩ := a2 h
    obtain ⟨h, h3⟩ := a2 h
    obtain ⟨h1, h2⟩ := a2 h
    exact s_sxn c hs (nd_ix hX h2) h3 (nm_is h1) (nm_var hX hs h1) (n1 h4) (okE fit a sc _ X c.toCtx hX hs h7).pe (okE fit d sc _ X c.toCtx hX hs h8).pe (okE fit e sc _ X c.toCtx hX hs h9).pe (n1 h5) (n1 h6) (sw_tpl2 rfl)
  · cases h
theorem os_sga (i : Nat) (a e : E) : AllS F G N (.sga i a e) := fun sc x X c hX hs h => by
  unfold ckS at h
  split at h <;> first | (rename_i hh; cases hh; done) | (rename_i hh _; cases hh; done) | skip
  · rename_i hh; cases hh
    obtain ⟨h, h5⟩ := a2 h
    obtain ⟨h, h4⟩ := a2 h
    obtain ⟨h, h3⟩ := a2 h
    obtain ⟨h1, h2⟩ := a2 h
    cases dx h1
    exact s_sga c (n1 h3) (nm_var hX hs h2) (okE fit a sc _ X c.toCtx hX hs h4).pe (okE fit e sc _ X c.toCtx hX hs h5).pe
  · cases h
theorem os_fz {i : Nat} {s : S} (is : AllS F G N s) : AllS F G N (.fz i s) := fun sc x X c hX hs h => by
  unfold ckS at h
  exact s_fz (is sc _ X c hX hs h)
mutual
theorem okS : ∀ s : S, AllS F G N s
  | .set i e => os_set fit i e
  | .own i e => os_own fit i e
  | .par i j a b => os_par fit i j a b
  | .tpl is e => os_tpl fit is e
  | .sit i a e => os_sit fit i a e
  | .swp i a b c d => os_swp fit i a b c d
  | .aug op i e => os_aug fit op i e
  | .exp e => os_exp fit e
  | .iff c a b => os_iff fit (okSs a) (okSs b)
  | .for tg it b => os_for fit (okSs b)
  | .whl c b => os_whl fit (okSs b)
  | .ret e => os_ret fit e
  | .retN => os_retN fit
  | .brk => os_brk fit
  | .cnt => os_cnt fit
  | .pss => os_pss fit
  | .rtt i e => os_rtt fit i e
  | .rtm i e => os_rtm fit i e
  | .tpo i j e => os_tpo fit i j e
  | .pr3 i j l a b c => os_pr3 fit i j l a b c
  | .sxn i j a x y => os_sxn fit i j a x y
  | .sga i a e => os_sga fit i a e
  | .fz i s => os_fz fit (okS s)
theorem okSs : ∀ ss : Ss, AllSs F G N ss
  | .nil => fun sc x X c hX hs h => by
    cases x with
    | nil => exact ss_nil
    | cons _ _ => exact noB h rfl
  | .cons s ss => fun sc x X c hX hs h => by
    cases x with
    | nil => exact noB h rfl
    | cons x xs =>
      obtain ⟨h1, h2⟩ := a2 (show (ckS G N sc s x && ckSs G N sc ss xs) = true from h)
      exact ss_cons (okS s sc x X c hX hs h1) (okSs ss sc xs X c hX hs h2)
end
end
end
end Rf

set_option Elab.async false
set_option linter.all false
set_option maxRecDepth 100000
set_option maxHeartbeats 8000000
/-! Rf17: functions. -/
namespace Rf
open PySem PySem.Spec L2
open PyProof.Rows (envOfC)

/-! ### what comes back -/
theorem outs_put : ∀ {ss : List SV} {ρ : Env} {os : List MO}, outs ss ρ = some os → ss.all notM = true → ∃ ss', putOuts ss os = some ss' ∧ ss'.length = ss.length ∧
    ∀ (j : Nat) (s : SV), ss[j]? = some s → (∀ d, s = .v d → ss'[j]? = some (.v d)) ∧ (∀ o0, s = .p o0 → ∃ o, ρ[j]? = some (some (.p o)) ∧ ss'[j]? = some (.p o)) ∧ ∀ g x, s = .f g x → ss'[j]? = some (.f g x)
  | [], ρ, os, h, _ => by
    have h : some [] = some os := by cases ρ <;> exact h
    cases h
    exact ⟨[], rfl, rfl, fun j s e => by simp at e⟩
  | .m o :: ss, ρ, os, h, hn => by cases hn
  | .v d :: ss, [], os, h, hn => by cases h
  | .v d :: ss, r :: ρ, os, h, hn => by
    have h : outs ss ρ = some os := h
    obtain ⟨ss', h1, h2, h3⟩ := outs_put h (by simpa [notM] using hn)
    refine ⟨.v d :: ss', ?_, by simp [h2], fun j s e => ?_⟩
    · show (putOuts ss os).map (SV.v d :: ·) = _
      rw [h1]; rfl
    · cases j with
      | zero =>
        simp at e; subst e
        exact ⟨fun d' z => (by cases z; rfl), fun o z => (by cases z), fun g x z => (by cases z)⟩
      | succ j => exact h3 j s (by simpa using e)
  | .f g x :: ss, [], os, h, hn => by cases h
  | .f g x :: ss, r :: ρ, os, h, hn => by
    have h : outs ss ρ = some os := h
    obtain ⟨ss', h1, h2, h3⟩ := outs_put h (by simpa [notM] using hn)
    refine ⟨.f g x :: ss', ?_, by simp [h2], fun j s e => ?_⟩
    · show (putOuts ss os).map (SV.f g x :: ·) = _
      rw [h1]; rfl
    · cases j with
      | zero =>
        simp at e; subst e
        exact ⟨fun d' z => (by cases z), fun o z => (by cases z), fun g x z => (by cases z; rfl)⟩
      | succ j => exact h3 j s (by simpa using e)
  | .p o0 :: ss, [], os, h, hn => by cases h
  | .p o0 :: ss, none :: ρ, os, h, hn => by cases h
  | .p o0 :: ss, some (.v d) :: ρ, os, h, hn => by cases h
  | .p o0 :: ss, some (.m d) :: ρ, os, h, hn => by cases h
  | .p o0 :: ss, some (.f g x) :: ρ, os, h, hn => by cases h
  | .p o0 :: ss, some (.p o) :: ρ, os, h, hn => by
    have h : (outs ss ρ).map (o :: ·) = some os := h
    cases e : outs ss ρ with
    | none => rw [e] at h; cases h
    | some os' =>
      rw [e] at h
      have h : o :: os' = os := Option.some.inj h
      subst h
      obtain ⟨ss', h1, h2, h3⟩ := outs_put e (by simpa [notM] using hn)
      refine ⟨.p o :: ss', ?_, by simp [h2], fun j s e => ?_⟩
      · show (putOuts ss os').map (SV.p o :: ·) = _
        rw [h1]; rfl
      · cases j with
        | zero =>
          simp at e; subst e
          exact ⟨fun d' z => (by cases z), fun o z => ⟨_, rfl, rfl⟩, fun g x z => (by cases z)⟩
        | succ j => exact h3 j s (by simpa using e)
theorem runD_inv {F : Fn} {d : FDef} {ss : List SV} {r : RV} {os : List MO} (h : runD F d ss = .ok (r, os)) :
    ss.length = d.np ∧ ∃ fl ρ, evSs F d.body (ss.map some ++ List.replicate (d.ns - d.np) none) = .ok fl ∧ outs ss ρ = some os ∧ ((fl = .ret r ρ) ∨ (fl = .nxt ρ ∧ r = .v .none)) := by
  unfold runD at h
  split at h
  · rename_i hl
    refine ⟨hl, ?_⟩
    split at h
    · rename_i r' ρ he
      obtain ⟨os', h1, h2⟩ := bnd_inv h
      cases h2
      exact ⟨_, ρ, he, ofO_inv h1, .inl rfl⟩
    · rename_i ρ he
      obtain ⟨os', h1, h2⟩ := bnd_inv h
      cases h2
      exact ⟨_, ρ, he, ofO_inv h1, .inr ⟨rfl, rfl⟩⟩
    all_goals cases h
  · cases h
theorem fit_run (T : Nat → Option FDef) : ∀ n, FnFit (run T n)
  | 0 => fun f ss r os _ h => by cases h
  | n + 1 => fun f ss r os hn h => by
    have h : (match T f with
      | some d => runD (run T n) d ss
      | none => .bad) = Res.ok (r, os) := h
    split at h
    · obtain ⟨_, fl, ρ, _, h2, _⟩ := runD_inv h
      obtain ⟨ss', h3, _⟩ := outs_put h2 hn
      exact ⟨ss', h3⟩
    · cases h

/-! ### the frame -/
section
variable {K : PySem.W.Frag} {W : Wd} {H H' : Hp} {ss ss' : List SV} {vs : List V}
theorem ow_app {A : Own} {m : Nat} : ow (A ++ List.replicate m none) = ow A := by
  show List.filterMap id (A ++ List.replicate m none) = List.filterMap id A
  rw [List.filterMap_append]
  have : List.filterMap id (List.replicate m (none : Option Addr)) = [] := by
    rw [List.filterMap_eq_nil_iff]
    intro a h
    rw [List.eq_of_mem_replicate h]; rfl
  rw [this, List.append_nil]
theorem at2_app {A : Own} {m i : Nat} : at2 (A ++ List.replicate m none) i = at2 A i := by
  unfold at2
  by_cases h : i < A.length
  · rw [List.getElem?_append_left h]
  · rw [List.getElem?_append_right (by omega), List.getElem?_eq_none (l := A) (by omega)]
    by_cases h2 : i - A.length < m
    · rw [List.getElem?_replicate_of_lt h2]; rfl
    · rw [List.getElem?_eq_none (by simpa using h2)]
theorem slot_app {ρ : Env} {m i : Nat} : slot (ρ ++ List.replicate m none) i = slot ρ i := by
  unfold slot
  by_cases h : i < ρ.length
  · rw [List.getElem?_append_left h]
  · rw [List.getElem?_append_right (by omega), List.getElem?_eq_none (l := ρ) (by omega)]
    by_cases h2 : i - ρ.length < m
    · rw [List.getElem?_replicate_of_lt h2]; rfl
    · rw [List.getElem?_eq_none (by simpa using h2)]
theorem Sim.frame {A : Own} {ρ : Env} {σ : St} (S : Sim K W A H ρ σ) (m : Nat) : Sim K W (A ++ List.replicate m none) H (ρ ++ List.replicate m none) (σ ++ List.replicate m none) := by
  have lk : Lk W (A ++ List.replicate m none) = Lk W A := by
    show W.D ++ ow (A ++ List.replicate m none) = W.D ++ ow A
    rw [ow_app]
  refine ⟨by simp [S.lenA], by simp [S.lenS], fun i s h => ?_, fun i h => ?_, fun i j a h1 h2 => ?_, fun i a h => ?_, S.lck, S.ext0⟩
  · rw [slot_app] at h
    obtain ⟨v, h1, h2⟩ := S.slots i s h
    refine ⟨v, ?_, ?_⟩
    · rw [List.getElem?_append_left (List.getElem?_eq_some_iff.mp h1).1]; exact h1
    · cases s with
      | v d => exact ⟨by rw [at2_app]; exact h2.1, by rw [lk]; exact h2.2⟩
      | f g x => exact ⟨by rw [at2_app]; exact h2.1, h2.2⟩
      | m o =>
        obtain ⟨a, q1, q2, q3, q4⟩ := h2
        exact ⟨a, by rw [at2_app]; exact q1, q2, q3, by rw [lk]; exact q4⟩
      | p o =>
        obtain ⟨a, q1, q2, q3, q4⟩ := h2
        exact ⟨a, by rw [at2_app]; exact q1, q2, q3, by rw [lk]; exact q4⟩
  · rw [slot_app] at h
    rw [at2_app]; exact S.free i h
  · rw [at2_app] at h1 h2; exact S.inj i j a h1 h2
  · rw [at2_app] at h; exact S.dsj i a h
theorem slot_ss {j : Nat} : slot (ss.map some) j = ss[j]? := by
  unfold slot
  rw [List.getElem?_map]
  cases ss[j]? <;> rfl
/-- the caller's objects behind the run -/
theorem Sim.back {D1 : List Addr} {A' : Own} {ρ' : Env} {σ' : St} {os : List MO} (S : Sim K W W.P0 H (ss.map some) (vs.map some)) (hn : ss.all notM = true) (ho : outs ss ρ' = some os) (hp : putOuts ss os = some ss') (h0 : W.H0 = H)
    (S' : Sim K { W with D := D1 } A' H' ρ' σ') (hD : ∀ a, a ∈ D1 → a ∈ W.D ∨ H a = none) :
    Sim K { W with D := D1 } W.P0 H' (ss'.map some) (vs.map some) ∧ ∀ a, a ∈ Lk { W with D := D1 } W.P0 → a ∈ Lk { W with D := D1 } A' := by
  obtain ⟨ss2, hp2, hl, hs⟩ := outs_put ho hn
  rw [hp] at hp2; cases hp2
  have ext : Ext (ow W.P0) H H' := by rw [← h0]; exact S'.ext0
  have pA : ∀ k b, at2 W.P0 k = some b → ∃ o0 o, ss[k]? = some (.p o0) ∧ ρ'[k]? = some (some (.p o)) ∧ ss'[k]? = some (.p o) ∧ at2 A' k = some b ∧ MoOk K (Lk { W with D := D1 } A') H' o b ∧ vs[k]? = some (.ref b) := fun k b hk => by
    obtain ⟨s, o, h1, h2, h3, _⟩ := S.owned hk
    rw [slot_ss] at h1
    have hnm := List.all_eq_true.mp hn s (List.mem_of_getElem? h1)
    cases s with
    | v d => cases h2
    | f g x => cases h2
    | m o => cases hnm
    | p o0 =>
      obtain ⟨o', r1, r2⟩ := (hs k _ h1).2.1 o0 rfl
      obtain ⟨v', q1, a, q2, q3, q4, q5⟩ := S'.slots k (.p o') (by unfold slot; rw [r1]; rfl)
      have q4 : at2 W.P0 k = some a := q4
      rw [hk] at q4; cases q4
      refine ⟨o0, o', h1, r1, r2, q2, q5, ?_⟩
      rw [List.getElem?_map] at h3
      cases hv : vs[k]? with
      | none => rw [hv] at h3; cases h3
      | some v => rw [hv] at h3; exact Option.some.inj h3
  have sub : ∀ a, a ∈ Lk { W with D := D1 } W.P0 → a ∈ Lk { W with D := D1 } A' := fun a h => by
    rcases List.mem_append.mp h with h | h
    · exact List.mem_append_left _ h
    · obtain ⟨k, hk⟩ := ow_at2 h
      obtain ⟨_, _, _, _, _, e, _⟩ := pA k a hk
      exact List.mem_append_right _ (at2_ow e)
  have add : ∀ a, a ∈ Lk { W with D := D1 } W.P0 → a ∈ Lk W W.P0 ∨ H a = none := fun a h => by
    rcases List.mem_append.mp h with h | h
    · exact (hD a h).imp (fun z => List.mem_append_left _ z) id
    · exact .inl (List.mem_append_right _ h)
  refine ⟨⟨by have := S.lenA; simpa [hl] using this, by have := S.lenS; simpa [hl] using this, fun j s h => ?_, fun j h => ?_, S.inj, fun j a h q => ?_, S'.lck, S'.ext0⟩, sub⟩
  · rw [slot_ss] at h
    have hj : j < ss.length := by rw [← hl]; exact (List.getElem?_eq_some_iff.mp h).1
    have h0' : ss[j]? = some ss[j] := List.getElem?_eq_getElem hj
    obtain ⟨v, q1, q2⟩ := S.slots j ss[j] (by rw [slot_ss]; exact h0')
    refine ⟨v, q1, ?_⟩
    generalize ss[j] = s0 at h0' q2
    cases s0 with
    | v d =>
      have := (hs j _ h0').1 d rfl
      rw [h] at this; cases this
      exact ⟨q2.1, (q2.2.add add).ext ext fun a z => List.mem_append_right _ z⟩
    | m o => cases List.all_eq_true.mp hn _ (List.mem_of_getElem? h0')
    | f g x =>
      have := (hs j _ h0').2.2 g x rfl
      rw [h] at this; cases this
      exact q2
    | p o0 =>
      obtain ⟨a, r1, r2, r3, _⟩ := q2
      obtain ⟨_, o, _, _, z3, z4, z5, _⟩ := pA j a r1
      rw [h] at z3; cases z3
      exact ⟨a, r1, r2, r1, z5.sub sub⟩
  · rw [slot_ss] at h
    refine S.free j ?_
    rw [slot_ss]
    cases e : ss[j]? with
    | none => rfl
    | some s =>
      have := (List.getElem?_eq_some_iff.mp e).1
      rw [List.getElem?_eq_none_iff] at h
      omega
  · obtain ⟨_, _, _, _, _, e, _⟩ := pA j a h
    exact S'.dsj j a e q
/-- the end of a def's run -/
theorem ret_ok {A0 A' : Own} {ρ' : Env} {σ' : St} {os : List MO} {r : RV} {v : V} {Q : VK} (S : Sim K W W.P0 H (ss.map some) (vs.map some)) (hn : ss.all notM = true) (ho : outs ss ρ' = some os) (hp : putOuts ss os = some ss') (h0 : W.H0 = H)
    (p : RetV K W A' H' ρ' σ' v r) (q : ∀ v H', Ext (ow W.P0) H H' → PostV K W W.P0 H H' (ss'.map some) (vs.map some) v r → Q v H') : Q v H' := by
  cases r with
  | b i => exact p.elim
  | f g x => exact p.elim
  | mt o d =>
    obtain ⟨pp, a, v2, rfl, hT, hz, S', mo, rd⟩ := p
    obtain ⟨B, sub⟩ := S.back (D1 := a :: W.D) hn ho hp h0 S' fun b h => by
      rcases List.mem_cons.mp h with h | h
      · subst h; exact .inr (by rw [← h0]; exact hz)
      · exact .inl h
    exact q _ H' (by rw [← h0]; exact S'.ext0) ⟨pp, a, v2, rfl, hT, by rw [← h0]; exact hz, B, mo.sub sub, rd.sub sub⟩
  | v d =>
    obtain ⟨S', rr⟩ := p
    obtain ⟨B, sub⟩ := S.back (D1 := W.D) hn ho hp h0 S' fun a h => .inl h
    exact q v H' (by rw [← h0]; exact S'.ext0) ⟨B, rr.sub sub⟩
  | m o =>
    obtain ⟨a, rfl, hz, S', mo⟩ := p
    obtain ⟨B, sub⟩ := S.back (D1 := a :: W.D) hn ho hp h0 S' fun b h => by
      rcases List.mem_cons.mp h with h | h
      · subst h; exact .inr (by rw [← h0]; exact hz)
      · exact .inl h
    exact q _ H' (by rw [← h0]; exact S'.ext0) ⟨a, rfl, by rw [← h0]; exact hz, B, mo.sub sub⟩
end

/-! ### one def -/
def scopeB (N ps : List Str) (sc : Scope) : Bool :=
  (match sc.kind with | .function => true | _ => false) && !sc.isCoroutine && !sc.isGenerator && decide N.Nodup && decide (N.take ps.length = ps) && ps.all (fun x => decide (sc.names.lookup x = some .local) || decide (sc.names.lookup x = some .cell)) &&
    sc.names.all fun y => match y.2 with | .free => false | _ => true
theorem scopeB_ok {N ps : List Str} {sc : Scope} (h : scopeB N ps sc = true) : FnScope N ps sc := by
  unfold scopeB at h
  obtain ⟨h, h7⟩ := a2 h
  obtain ⟨h, h6⟩ := a2 h
  obtain ⟨h, h5⟩ := a2 h
  obtain ⟨h, h4⟩ := a2 h
  obtain ⟨h, h3⟩ := a2 h
  obtain ⟨h1, h2⟩ := a2 h
  refine ⟨?_, n1 h2, n1 h3, dx h4, dx h5, fun x hx => ?_, fun y hy => ?_⟩
  · split at h1
    · assumption
    · cases h1
  · have := List.all_eq_true.mp h6 x hx
    rw [Bool.or_eq_true, decide_eq_true_eq, decide_eq_true_eq] at this
    exact this
  · have := List.all_eq_true.mp h7 y hy
    intro e
    rw [e] at this; cases this
/-- a def of the text with its term -/
structure DD where
  dd : He.DefD
  ps : List Str
  N : List Str
  term : Ss
def DD.f (d : DD) : FDef := ⟨d.ps.length, d.N.length, d.term⟩
def DD.ck (G : Gd) (d : DD) : Bool := scopeB d.N d.ps d.dd.scope && ckSs G d.N d.dd.scope d.term d.dd.body
def DD.Bind (d : DD) : Prop := ∀ (kV doc pm : Value) (an : Option Addr) (cdv ct : Value) (us : List Value), us.length = d.ps.length → bindArgs (PySem.W.fnOf d.dd.name d.dd.qual d.dd.params d.dd.body d.dd.scope .none kV doc pm an cdv ct) ⟨us, []⟩ = pure (d.ps.zip us)
section
variable {P : Program} {w : World} {K : PySem.W.Frag} {mg : Str → Option Value} {base : Heap}
theorem fnG_one {F : Fn} {F' : Fn} {k i : Nat} {G : Gd} {d : DD} {f : Addr} {fd : FuncData} (fit : FnFit F) (D : FunD K d.dd.name d.dd.qual d.dd.params d.dd.body d.dd.scope [] [] f fd) (ck : d.ck G = true) (hF : ∀ ss, F' i ss = runD F d.f ss)
    (hfree : ∀ x ∈ G.free, mg x = none) (hcon : ∀ x c, (x, c) ∈ G.con → ∃ u v, mg x = some u ∧ RelV v u ∧ ∀ L H, Rep K L H c v)
    (hfns : ∀ x j, (x, j) ∈ G.fns → ∃ (fa : Addr) (fd : FuncData) (ps : List Str), mg x = some (.ref fa) ∧ PySem.W.keepIn K (.ref fa) = true ∧ Binds K fd ps [] ∧ FnG P w K mg base k fa fd ps (spR K F j) ∧ fa = fnA K x) :
    FnG P w K mg base (k + 1) f fd d.ps (spR K F' i) := by
  obtain ⟨ck1, ck2⟩ := a2 ck
  have S := scopeB_ok ck1
  have len : ∀ vs H Q, spR K F' i vs H Q → vs.length = d.ps.length := fun vs H Q ⟨W, ss, r, os, ss', h0, Si, hn, hf, _⟩ => by
    rw [hF] at hf
    have h1 := (runD_inv hf).1
    have h2 := Si.lenS
    simp at h2
    rw [h2]; exact h1
  obtain ⟨oc, od, dV, kV, doc, pm, an, cdv, ct, osl, rfl, lk, hcd, _, _⟩ := D.ex
  refine ⟨len, fun A outer s H args us vs Q hr hgu e0 hb r hsp => ?_⟩
  have hl := len _ _ _ hsp
  have KX : K.In s.heap := e0.mod.kin.keeps fun b o e => (e0.bs b o e).1
  have lim : s.heap.NoLimit := e0.mod.nolimit.keeps fun b o e => (e0.bs b o e).1
  have hkind : ∀ y ∈ d.ps.zip us, d.dd.scope.names.lookup y.1 = some .local ∨ (d.dd.scope.names.lookup y.1 = some .cell ∧ ((cellsFrom (s.heap.objs.size + 1) d.dd.scope.names []).lookup y.1).isSome = true) := fun ⟨n, v⟩ hy => by
    rcases S.par n (List.of_mem_zip hy).1 with q | q
    · exact .inl q
    · exact .inr ⟨q, PySem.W.cellsFrom_some _ _ _ (.inl q)⟩
  refine codeAny_call_function hr.depth (KX _ _ lk) rfl S.co S.gen rfl (PySem.W.codeRec_of KX hcd) (hb _ _ _ _ ?_)
  refine wpAny_newFunctionEnv_cells S.kind hkind fun env he s1 x => ?_
  subst he
  refine ⟨lim.keeps x.toInCall.keep, codeAny_func ?_⟩
  have hr2 : Room k (A.deeper (envOfC d.dd.qual d.dd.scope s.heap.objs.size f cdv)) := hr.deeper _
  have I : Inv (cxOf CX0 P w K mg base d.N d.dd.qual d.dd.scope f cdv A outer s H E0) [] (start d.N vs) H s1 := inv_start S hr.hd e0 hl r x
  -- the body
  have c : SCx (cxOf CX0 P w K mg base d.N d.dd.qual d.dd.scope f cdv A outer s H E0).nox F G := by
    refine { toCtx := ⟨rfl, S.nd, ?_, hgu, hfree, hcon, fun x j hx => ?_⟩, fn := fun _ => rfl, xe := rfl, kind := S.kind }
    · have := hr2.un
      show (A.deeper (envOfC d.dd.qual d.dd.scope s.heap.objs.size f cdv)).units + 200 < cLine
      omega
    · obtain ⟨fa, fd, ps, h1, h2, h3, h4, h5⟩ := hfns x j hx
      subst h5
      exact ⟨h1, _, fd, ps, k, h1, h2, h3, hr2, h4⟩
  have body : PSs (cxOf CX0 P w K mg base d.N d.dd.qual d.dd.scope f cdv A outer s H E0) d.dd.body (tS K (evSs F d.term)) :=
    PSs.nox (okSs fit d.term d.dd.scope d.dd.body _ c rfl rfl ck2)
  obtain ⟨W, ss, rr, os, ss', h0, Si, hn, hf, hp, hq⟩ := hsp
  rw [hF] at hf
  obtain ⟨l1, fl, ρ', hev, ho, hfl⟩ := runD_inv hf
  have l2 : vs.length = ss.length := by have := Si.lenS; simpa using this
  have hstart : tS K (evSs F d.term) { nx := fun _ H' => Q .non H', rt := Q } (start d.N vs) H := by
    refine ⟨W, W.P0 ++ List.replicate (d.N.length - vs.length) none, ss.map some ++ List.replicate (d.N.length - vs.length) none, fl, Si.frame _, ?_, ?_⟩
    · have e : d.f.ns - d.f.np = d.N.length - vs.length := by rw [hl]; rfl
      rw [← e]; exact hev
    · rcases hfl with rfl | ⟨rfl, rfl⟩
      · exact fun v A' σ' H' _ p => ret_ok (A0 := W.P0) Si hn ho hp h0 p hq
      · exact fun A' σ' H' _ S' => ret_ok (A0 := W.P0) (r := .v .none) Si hn ho hp h0 ⟨S', .non⟩ hq
  refine wpAny_mono (body.run [] s1 (start d.N vs) H _ I hstart) (fun fl s' hs => ?_) fun e s' hs => hs
  have fin : ∀ {σ' : St} {H' : Hp} {v : V} {u : Value}, Inv (cxOf CX0 P w K mg base d.N d.dd.qual d.dd.scope f cdv A outer s H E0) [] σ' H' s' → RelV v u → Q v H' → CE outer P w H s Q u s' :=
    fun {σ' H' v u} J rv q => ⟨v, H', J.os, J.bare, J.base, J.hok, rv, q⟩
  cases fl with
  | ret u =>
    obtain ⟨v, σ', H', J, rv, q⟩ := hs
    exact fin J rv q
  | next =>
    obtain ⟨σ', H', J, q⟩ := hs
    exact fin (v := V.non) (u := Value.none) J rfl q
  | brk =>
    obtain ⟨_, _, _, q⟩ := hs
    exact False.elim q
  | cont =>
    obtain ⟨_, _, _, q⟩ := hs
    exact False.elim q
/-! ### all defs -/
structure Mods (K : PySem.W.Frag) (mg : Str → Option Value) (T : Nat → Option FDef) (G : Gd) (tab : List (Nat × DD)) : Prop where
  T : ∀ p ∈ tab, T p.1 = some p.2.f
  fun_ : ∀ p ∈ tab, ∃ fd, FunD K p.2.dd.name p.2.dd.qual p.2.dd.params p.2.dd.body p.2.dd.scope [] [] (He.fAd K p.2.dd.at_) fd
  bind : ∀ p ∈ tab, p.2.Bind
  ck : ∀ p ∈ tab, p.2.ck G = true
  free : ∀ x ∈ G.free, mg x = none
  con : ∀ x c, (x, c) ∈ G.con → ∃ u v, mg x = some u ∧ RelV v u ∧ ∀ L H, Rep K L H c v
  fns : ∀ x j, (x, j) ∈ G.fns → ∃ p ∈ tab, p.1 = j ∧ mg x = some (.ref (He.fAd K p.2.dd.at_)) ∧ p.2.dd.at_ = (x, none)
theorem fnG_all {T : Nat → Option FDef} {G : Gd} {tab : List (Nat × DD)} (M : Mods K mg T G tab) : ∀ (n : Nat), ∀ p ∈ tab, ∀ fd, FunD K p.2.dd.name p.2.dd.qual p.2.dd.params p.2.dd.body p.2.dd.scope [] [] (He.fAd K p.2.dd.at_) fd →
    FnG P w K mg base n (He.fAd K p.2.dd.at_) fd p.2.ps (spR K (run T n) p.1)
  | 0, p, hp, fd, D => ⟨fun vs H Q ⟨_, _, _, _, _, _, _, _, h, _⟩ => (by cases h), fun A outer s H args us vs Q _ _ _ _ _ ⟨_, _, _, _, _, _, _, _, h, _⟩ => (by cases h)⟩
  | n + 1, p, hp, fd, D => by
    refine fnG_one (fit_run T n) D (M.ck p hp) (fun ss => ?_) M.free M.con fun x j hx => ?_
    · show (match T p.1 with
        | some d => runD (run T n) d ss
        | none => .bad) = _
      rw [M.T p hp]
    · obtain ⟨q, hq, e, hm, hat⟩ := M.fns x j hx
      obtain ⟨fd', D'⟩ := M.fun_ q hq
      subst e
      exact ⟨_, fd', _, hm, D'.kp, FunD.bindsN D' (M.bind q hq), fnG_all M n q hq fd' D', by rw [hat]; rfl⟩
end
end Rf

set_option Elab.async false
set_option linter.all false
set_option maxRecDepth 100000
set_option maxHeartbeats 8000000
/-! Rf18: a law's end. -/
namespace Rf
open PySem PySem.Spec L2
open PyProof.Rows (envOfC AllBare)

theorem rep_ints {K : PySem.W.Frag} {L : List Addr} {H : Hp} : ∀ ns : List Int, RepAll K L H (ns.map PyData.int) (ns.map V.int)
  | [] => .nil
  | n :: ns => .cons (.int n) (rep_ints ns)
section
variable {P : Program} {w : World} {K : PySem.W.Frag} {mg mb : Str → Option Value} {k : Nat} {fa a : Addr} {fd : FuncData} {x : Str} {s₁ : Shared} {vs : List Value} {ns : List Int} {F : Fn} {i : Nat}
/-- the entry's heap in which only the script is told of -/
structure Script (K : PySem.W.Frag) (h : Heap) (a : Addr) (o : Obj) (H : Hp) (ns : List Int) : Prop where
  only : ∀ b u, H b = some u → b = a ∧ u = .frz o (.lst (ns.map V.int)) ∧ K.lookup a = none
  rep : ∀ L, a ∉ L → Rep K L H (.list (ns.map .int)) (.ref a)
theorem script_ex (KX : K.In s₁.heap) (ha : s₁.heap.get? a = some { cls := .type "list", data := .seq vs.toArray }) (rv : Vals (ns.map V.int) vs) (hl : ns.length ≤ sizeLine) :
    ∃ H, Script K s₁.heap a { cls := .type "list", data := .seq vs.toArray } H ns ∧ HOk P w H s₁.heap := by
  have hz : (ns.map V.int).length ≤ sizeLine := by rw [List.length_map]; exact hl
  cases hk : K.lookup a with
  | some o =>
    have e := KX a o hk
    rw [ha] at e; cases e
    exact ⟨fun _ => none, ⟨fun b u z => (by cases z), fun L _ => .lstK ⟨vs, 0, hk, hz, rv⟩ (rep_ints ns)⟩, fun b u z => (by cases z)⟩
  | none =>
    let o : Obj := { cls := .type "list", data := .seq vs.toArray }
    refine ⟨fun b => if b = a then some (.frz o (.lst (ns.map V.int))) else none, ⟨fun b u z => ?_, fun L hL => .lst hL (.inr ⟨o, if_pos rfl⟩) (rep_ints ns)⟩, fun b u z => ?_⟩
    · by_cases e : b = a
      · have z : (if b = a then some (HO.frz o (.lst (ns.map V.int))) else none) = some u := z
        rw [if_pos e] at z
        cases z
        exact ⟨e, rfl, hk⟩
      · have z : (if b = a then some (HO.frz o (.lst (ns.map V.int))) else none) = some u := z
        rw [if_neg e] at z; cases z
    · have z : (if b = a then some (HO.frz o (.lst (ns.map V.int))) else none) = some u := z
      by_cases e : b = a
      · rw [if_pos e] at z
        cases z
        subst e
        exact ⟨ha, hz, vs, _, rv, ha⟩
      · rw [if_neg e] at z; cases z
theorem end_core (KX : K.In s₁.heap) (gN : s₁.heap.Ns mainGlobals mg) (bN : s₁.heap.Ns builtinsNs mb) (boot : ∀ x : Str, x ≠ "__name__" → mb x = bootBuiltins x) (free : s₁.heap.NoLimit) (gens : s₁.gens = #[])
    (ha : s₁.heap.get? a = some { cls := .type "list", data := .seq vs.toArray }) (rv : Vals (ns.map V.int) vs) (hl : ns.length ≤ sizeLine) (hr : Room k callerA)
    (G : ∀ base : Heap, K.In base → base.Ns mainGlobals mg → FnG P w K mg base k fa fd [x] (spR K F i)) (bind : ∀ (s : Shared) (u : Value), BindsTo s fd ⟨[u], []⟩ [(x, u)])
    (run : F i [.v (.list (ns.map .int))] = .ok (.v (.bool true), [])) :
    codeAny (model P w) callerA (.call (.ref fa) ⟨[.ref a], []⟩) (fun r s' => r = .ok (.ret (.bool true)) ∧ OldK s₁.heap s'.heap ∧ s'.os = s₁.os ∧ AllBare s'.gens) s₁ := by
  obtain ⟨H, sc, hok⟩ := script_ex (P := P) (w := w) KX ha rv hl
  have keepB : ∀ {b : Addr} {o : Obj}, s₁.heap.get? b = some o → (b = a → K.lookup a ≠ none) → (hidT s₁.heap H).get? b = some o := fun {b o} e hb => by
    refine hidT_get e ?_
    cases q : H b with
    | none => rfl
    | some u =>
      obtain ⟨z, _, y⟩ := sc.only b u q
      exact absurd y (hb z)
  have keepD : ∀ {b : Addr} {m : Str → Option Value}, s₁.heap.Ns b m → (hidT s₁.heap H).Ns b m := fun {b m} ⟨o, es, ep, e, d, r⟩ => by
    refine ⟨o, es, ep, hidT_get e ?_, d, r⟩
    cases q : H b with
    | none => rfl
    | some u =>
      obtain ⟨z, _, _⟩ := sc.only b u q
      rw [z, ha] at e
      cases e
      cases d
  have inB : K.In (hidT s₁.heap H) := fun b o e => keepB (KX b o e) fun z => by rw [z] at e; rw [e]; simp
  have limB : (hidT s₁.heap H).NoLimit := by
    obtain ⟨mc, h1, h2⟩ := free
    exact ⟨mc, keepD h1, h2⟩
  have M : Mod K mg (hidT s₁.heap H) := { kin := inB, glob := keepD gN, blt := ⟨mb, keepD bN, boot⟩, nolimit := limB }
  have E : Env0 P w K mg (hidT s₁.heap H) callerA [] s₁ H := ⟨rfl, M, fun b o e => of_hidT e, Nat.le_of_eq (hidT_size _ _), trivial, fun b hb => (by cases hb), hok, .of_eq gens⟩
  let W : Wd := { D := [], H0 := H, P0 := [none] }
  have S : Sim K W W.P0 H ([SV.v (.list (ns.map .int))].map some) ([V.ref a].map some) := by
    refine ⟨rfl, rfl, fun j sv h => ?_, fun j h => ?_, fun j j2 b h => ?_, fun j b h => ?_, fun b h => (by cases h), Ext.refl _ _⟩
    · cases j with
      | zero => cases h; exact ⟨.ref a, rfl, rfl, sc.rep _ (by simp [Lk, W])⟩
      | succ j => simp [slot] at h
    all_goals cases j <;> first | rfl | (cases h; done) | (simp [at2, W] at h; done) | simp [at2, W]
  have sp : spR K F i [.ref a] H (fun v _ => v = .bl true) := by
    refine ⟨W, [.v (.list (ns.map .int))], .v (.bool true), [], [.v (.list (ns.map .int))], rfl, S, rfl, run, rfl, fun v H' _ p => ?_⟩
    exact Rep.bool_inv p.2
  have GG := (G _ inB (keepD gN)).run callerA [] s₁ H ⟨[.ref a], []⟩ [.ref a] [.ref a] _ hr rfl E (bind s₁ (.ref a)) (.cons rfl .nil) sp
  refine codeAny_mono GG fun r s' h => ?_
  cases r with
  | error e => exact h.elim
  | ok fl =>
    cases fl with
    | ret u =>
      obtain ⟨v, H', os, bare, un, hok', rel, q⟩ := h
      subst q
      cases (show u = Value.bool true from rel)
      refine ⟨rfl, OldK.of_keep fun b o e => ?_, os, bare⟩
      cases q : H b with
      | none => exact un.keep b o e q (fun z => (by cases z)) (by simp)
      | some u =>
        obtain ⟨z, z2, _⟩ := sc.only b u q
        subst z z2
        obtain ⟨w1, _⟩ := hok b _ q
        obtain ⟨w2, _⟩ := hok' b _ (un.frzs b _ _ q)
        rw [e] at w1; cases w1
        exact w2
    | _ => exact False.elim h
end
/-- a law, by its run -/
theorem walk_end {l : PySem.W.OpenLaw} {n k : Nat} {q : Program} {loose : List Str} {XP : (Str → Option Value) → Heap → Prop} {YP : World → Heap → Prop} {d : DefRec} {x : Str}
    (hn : l.most = some n) (hn2 : n ≤ sizeLine) (hdf : d.params.defaults = []) (hr : Room k callerA)
    (G : ∀ (w : World) (mg : Str → Option Value) (fa : Addr) (h : Heap), YP w h → h.Ns mainGlobals mg → mg d.name = some (.ref fa) →
      ∃ (K : PySem.W.Frag) (fd : FuncData) (F : Fn) (i : Nat), K.In h ∧ (∀ (s : Shared) (u : Value), BindsTo s fd ⟨[u], []⟩ [(x, u)]) ∧ (∀ ns : List Int, ns.length ≤ n → F i [.v (.list (ns.map .int))] = .ok (.v (.bool true), [])) ∧
        ∀ base : Heap, K.In base → base.Ns mainGlobals mg → FnG l.prog w K mg base k fa fd [x] (spR K F i)) :
    PySem.W.WalkO q loose XP YP l.row.toRowW d [] (fun f vs => PySem.call f vs) := by
  refine Att.attach_call hn hdf fun w s₀ s₁ mg mb fa o pm cd doc a vs ns T Y ho hd hcd hmg hobj hi hlen hg => ?_
  obtain ⟨K, fd, F, i, KX, hb, hrun, hG⟩ := G w mg fa _ Y T.T.g hmg
  exact end_core KX T.T.g T.T.b T.T.builtins T.T.nolimit hg hobj (vals_ints hi) (Nat.le_trans hlen hn2) hr hG hb (hrun ns hlen)
end Rf

set_option Elab.async false
set_option linter.all false
set_option maxRecDepth 100000
set_option maxHeartbeats 8000000
/-! Rf19: the module's constants and defs, read at the head. -/
namespace Rf
open PySem PySem.Spec L2

/-! ### constants -/
mutual
def cvB (K : PySem.W.Frag) : PyData → Value → Bool
  | .none, .none => true
  | .bool b, .bool c => b == c
  | .int i, .int j _ => decide (i = j)
  | .str x, .str y _ => decide (x = y)
  | .tuple ds, .ref a => match K.lookup a with
    | some ⟨.type c, _, .seq its _, _⟩ => decide (c = "tuple") && decide (its.size ≤ sizeLine) && cvBs K ds its.toList
    | _ => false
  | _, _ => false
def cvBs (K : PySem.W.Frag) : List PyData → List Value → Bool
  | [], [] => true
  | d :: ds, v :: vs => cvB K d v && cvBs K ds vs
  | _, _ => false
end
section
variable {K : PySem.W.Frag}
mutual
theorem cv_ok : ∀ {d : PyData} {u : Value}, cvB K d u = true → ∃ v, RelV v u ∧ ∀ L H, Rep K L H d v
  | .none, u, h => by
    cases u <;> first | (cases h; done) | exact ⟨.non, rfl, fun _ _ => .non⟩
  | .bool b, u, h => by
    cases u <;> first | (cases h; done) | skip
    rename_i c
    cases eq_of_beq (show (b == c) = true from h)
    exact ⟨.bl b, rfl, fun _ _ => .bl b⟩
  | .int i, u, h => by
    cases u <;> first | (cases h; done) | skip
    rename_i j t
    cases dx (show decide (i = j) = true from h)
    exact ⟨.int i, ⟨t, rfl⟩, fun _ _ => .int i⟩
  | .str x, u, h => by
    cases u <;> first | (cases h; done) | skip
    rename_i y t
    cases dx (show decide (x = y) = true from h)
    exact ⟨.str x, ⟨t, rfl⟩, fun _ _ => .str x⟩
  | .tuple ds, u, h => by
    cases u <;> first | (cases h; done) | skip
    rename_i a
    have h : (match K.lookup a with
      | some ⟨.type c, _, .seq its _, _⟩ => decide (c = "tuple") && decide (its.size ≤ sizeLine) && cvBs K ds its.toList
      | _ => false) = true := by simpa only [cvB] using h
    split at h
    · rename_i c od its n osl q
      obtain ⟨h, h3⟩ := a2 h
      obtain ⟨h1, h2⟩ := a2 h
      obtain ⟨vs, r1, r2⟩ := cvs_ok h3
      exact ⟨.ref a, rfl, fun L H => .tup (.inr ⟨_, its, n, q, congrArg Value.type (dx h1), rfl, dx h2, r1⟩) (r2 L H)⟩
    · cases h
  | .list _, u, h => by cases u <;> cases h
  | .dict _, u, h => by cases u <;> cases h
theorem cvs_ok : ∀ {ds : List PyData} {us : List Value}, cvBs K ds us = true → ∃ vs, Vals vs us ∧ ∀ L H, RepAll K L H ds vs
  | [], [], _ => ⟨[], .nil, fun _ _ => .nil⟩
  | [], _ :: _, h => by simp [cvBs] at h
  | _ :: _, [], h => by simp [cvBs] at h
  | d :: ds, u :: us, h => by
    obtain ⟨h1, h2⟩ := a2 (show (cvB K d u && cvBs K ds us) = true by simpa only [cvBs] using h)
    obtain ⟨v, r1, r2⟩ := cv_ok h1
    obtain ⟨vs, q1, q2⟩ := cvs_ok h2
    exact ⟨v :: vs, .cons r1 q1, fun L H => .cons (r2 L H) (q2 L H)⟩
end
end
def conB (K : PySem.W.Frag) (p : Str × PyData) : Bool := match PySem.W.nsIn K mainGlobals p.1 with
  | some (some u) => cvB K p.2 u
  | _ => false
theorem con_ok {K : PySem.W.Frag} {h : Heap} {mg : Str → Option Value} (X : K.In h) (G : h.Ns mainGlobals mg) {p : Str × PyData} (c : conB K p = true) : ∃ u v, mg p.1 = some u ∧ RelV v u ∧ ∀ L H, Rep K L H p.2 v := by
  unfold conB at c
  split at c
  · rename_i u e
    obtain ⟨v, r1, r2⟩ := cv_ok c
    exact ⟨u, v, PySem.W.mg_of X G e, r1, r2⟩
  · cases c

/-! ### the head's Hook -/
abbrev AlC : Type := He.AlD × Bool
def obC (n : Nat) (fa : List He.Fa) (fn : List He.DefD) (cs : List (Str × PyData)) (g : Addr → Option Obj) : AlC := (He.obsD fa fn (He.frG g (He.asD g n)), cs.all (conB (He.frG g (He.asD g n))))
def hookC (n : Nat) (fa : List He.Fa) (fn : List He.DefD) (cs : List (Str × PyData)) : PySem.W.Hook where
  α := AlC
  obs := fun s => obC n fa fn cs s.heap.get?
  val := fun _ => (He.valD fn, true)
  says := fun _ h => ∃ K : PySem.W.Frag, K.In h ∧ He.SaysD fa fn K ∧ cs.all (conB K) = true
  of := fun _ _ e => ⟨_, He.frG_in, congrArg (fun z : AlC => z.1) e, congrArg (fun z : AlC => z.2) e⟩
  keeps := fun _ _ _ ⟨K, h1, h2⟩ k => ⟨K, PySem.W.Frag.In.keeps h1 k, h2⟩
theorem obC_eq {n : Nat} {fa : List He.Fa} {fn : List He.DefD} {cs : List (Str × PyData)} {g : Addr → Option Obj} {s : Shared} (h : ∀ a, g a = s.heap.get? a) : obC n fa fn cs g = (hookC n fa fn cs).obs s := by
  cases (funext h : g = s.heap.get?)
  rfl
def faOf (tab : List (Nat × DD)) (G : Gd) : List He.Fa := (tab.map fun p => .glo p.2.dd.at_.1) ++ G.free.map .free
def fnOf' (tab : List (Nat × DD)) : List He.DefD := tab.map (·.2.dd)
theorem mods_of {K : PySem.W.Frag} {h : Heap} {mg : Str → Option Value} {T : Nat → Option FDef} {G : Gd} {tab : List (Nat × DD)} (X : K.In h) (N : h.Ns mainGlobals mg) (c : He.SaysD (faOf tab G) (fnOf' tab) K) (cc : G.con.all (conB K) = true)
    (hT : ∀ p ∈ tab, T p.1 = some p.2.f) (hb : ∀ p ∈ tab, p.2.Bind) (hck : tab.all (fun p => p.2.ck G) = true) (hat : ∀ p ∈ tab, p.2.dd.at_.2 = none ∧ p.2.dd.dfl = [] ∧ p.2.dd.kwd = [])
    (hfns : G.fns = tab.map fun p => (p.2.dd.at_.1, p.1)) : Mods K mg T G tab where
  T := hT
  bind := hb
  ck := List.all_eq_true.mp hck
  fun_ := fun p hp => by
    obtain ⟨fd, F⟩ := He.SaysD.defs c (d := p.2.dd) (List.mem_map.mpr ⟨p, hp, rfl⟩)
    obtain ⟨_, h2, h3⟩ := hat p hp
    unfold He.DefD.dvs He.DefD.kws at F
    rw [h2, h3] at F
    exact ⟨fd, F⟩
  free := fun x hx => He.free_ok X N (He.SaysD.facts c (List.mem_append_right _ (List.mem_map.mpr ⟨x, hx, rfl⟩)))
  con := fun x d hx => con_ok X N (List.all_eq_true.mp cc (x, d) hx)
  fns := fun x j hx => by
    rw [hfns] at hx
    obtain ⟨p, hp, e⟩ := List.mem_map.mp hx
    cases e
    have ea : p.2.dd.at_ = (p.2.dd.at_.1, none) := Prod.ext rfl (hat p hp).1
    refine ⟨p, hp, rfl, ?_, ea⟩
    rw [ea]
    exact He.glo_ok X N (He.SaysD.facts c (List.mem_append_left _ (List.mem_map.mpr ⟨p, hp, rfl⟩)))
/-- a def of the text, as the table has it -/
def mkD (P : Program) (name : Str) (i : Nat) : He.DefD := ⟨(name, none), name, name, defArgs (P.main.body.getD i (.Pass ⟨0, 0, 0, 0⟩)), defBody (P.main.body.getD i (.Pass ⟨0, 0, 0, 0⟩)), defScope (P.main.body.getD i (.Pass ⟨0, 0, 0, 0⟩)), [], []⟩
/-- a def that is called by another name -/
def mkA (P : Program) (at_ name : Str) (i : Nat) : He.DefD := ⟨(at_, none), name, name, defArgs (P.main.body.getD i (.Pass ⟨0, 0, 0, 0⟩)), defBody (P.main.body.getD i (.Pass ⟨0, 0, 0, 0⟩)), defScope (P.main.body.getD i (.Pass ⟨0, 0, 0, 0⟩)), [], []⟩
/-- the law's end, from the hook's word and the law's run -/
theorem law_of {l : PySem.W.OpenLaw} {n k i : Nat} {q : Program} {loose : List Str} {XP : (Str → Option Value) → Heap → Prop} {d : DefRec} {T : Nat → Option FDef} {G : Gd} {tab : List (Nat × DD)} {dl : DD} {m : Nat}
    (hn : l.most = some n) (hn2 : n ≤ sizeLine) (hdf : d.params.defaults = []) (hr : Room k callerA) (hT : ∀ p ∈ tab, T p.1 = some p.2.f) (hb : ∀ p ∈ tab, p.2.Bind) (hck : tab.all (fun p => p.2.ck G) = true)
    (hat : ∀ p ∈ tab, p.2.dd.at_.2 = none ∧ p.2.dd.dfl = [] ∧ p.2.dd.kwd = []) (hfns : G.fns = tab.map fun p => (p.2.dd.at_.1, p.1)) (hl : (i, dl) ∈ tab) (hps : dl.ps = [("script" : Str)]) (hname : d.name = dl.dd.at_.1)
    (run : ∀ ns : List Int, ns.length ≤ n → run T k i [.v (.list (ns.map .int))] = .ok (.v (.bool true), [])) :
    PySem.W.WalkO q loose XP (hookC m (faOf tab G) (fnOf' tab) G.con).says l.row.toRowW d [] (fun f vs => PySem.call f vs) := by
  refine walk_end (x := "script") hn hn2 hdf hr fun w mg fa h Y N hmg => ?_
  obtain ⟨K, X, c, cc⟩ := Y
  have M := mods_of X N c cc hT hb hck hat hfns
  have hg : mg dl.dd.at_.1 = some (.ref (He.fAd K dl.dd.at_)) := by
    rw [show dl.dd.at_ = (dl.dd.at_.1, none) from Prod.ext rfl (hat _ hl).1]
    exact He.glo_ok X N (He.SaysD.facts c (List.mem_append_left _ (List.mem_map.mpr ⟨_, hl, rfl⟩)))
  rw [hname, hg] at hmg
  cases hmg
  obtain ⟨fd0, D0⟩ := M.fun_ _ hl
  refine ⟨K, fd0, Rf.run T k, i, X, fun s u => ?_, run, fun base X' N' => ?_⟩
  · have := FunD.bindsA D0 (hb _ hl) s [u] (by show 1 = dl.ps.length; rw [hps]; rfl)
    have e : (i, dl).2.ps.zip [u] = [(("script" : Str), u)] := by
      show dl.ps.zip [u] = _
      rw [hps]; rfl
    rw [← e]; exact this
  · have M' := mods_of X' N' c cc hT hb hck hat hfns
    have g := fnG_all (P := l.prog) (w := w) (base := base) M' k (i, dl) hl fd0 D0
    rw [← hps]
    exact g
end Rf

set_option Elab.async false
set_option linter.all false
set_option maxRecDepth 100000
set_option maxHeartbeats 1000000
/-! PU: plain reasoning about runs. -/
namespace Rf
open PySem

/-- a proof that is not looked into -/
theorem opq {p : Prop} (h : p) : p := h
/-- what comes first is looked at first -/
theorem ex_add {c n : Nat} (h : c ≤ n) : ∃ m, n = m + c := ⟨n - c, by omega⟩
section
variable {own : List Nat} {bind : PyData → Env → Option Env} {cond : EvB} {elt : Env → Res (RV × Env)}
/-- a comprehension whose turns leave the slots as they are -/
theorem comp_pure {p : PyData → Bool} {f : PyData → PyData} {ρ : Env} (ρx : PyData → Env) : ∀ (xs acc : List PyData), (∀ x ∈ xs, bind x ρ = some (ρx x) ∧ cond (ρx x) = .ok (p x, ρx x) ∧ (p x = true → ∃ r, elt (ρx x) = .ok (r, ρx x) ∧ keep r = some (f x)) ∧ wipeE (ρx x) own = ρ) →
    acc.length + xs.length ≤ lim → compR own bind cond elt xs ρ acc = .ok (acc ++ (xs.filter p).map f, ρ)
  | [], acc, _, _ => by simp [compR]
  | x :: xs, acc, h, hl => by
    obtain ⟨h1, h2, h3, h4⟩ := h x List.mem_cons_self
    have ih := fun acc => comp_pure (p := p) (f := f) (ρ := ρ) ρx xs acc fun y hy => h y (List.mem_cons_of_mem _ hy)
    simp only [List.length_cons] at hl
    cases hp : p x with
    | false =>
      simp only [compR, h1, ofO_some, bnd_ok, h2, hp, Bool.false_eq_true, if_false, h4, List.filter_cons]
      exact ih acc (by omega)
    | true =>
      obtain ⟨r, h5, h6⟩ := h3 hp
      simp only [compR, h1, ofO_some, bnd_ok, h2, hp, if_true, h5, h6, h4, List.filter_cons]
      rw [if_pos (by omega), ih (acc ++ [f x]) (by simp only [List.length_append, List.length_singleton]; omega)]
      simp
/-- a comprehension with something that changes -/
theorem comp_inv {I : Nat → Env → List PyData → Prop} : ∀ (xs : List PyData) (k : Nat) (ρ : Env) (acc : List PyData), I k ρ acc → acc.length + xs.length ≤ lim →
    (∀ i x ρ acc, xs[i]? = some x → I (k + i) ρ acc → ∃ ρ1 ρ2 b, bind x ρ = some ρ1 ∧ cond ρ1 = .ok (b, ρ2) ∧ (b = true → ∃ r d ρ3, elt ρ2 = .ok (r, ρ3) ∧ keep r = some d ∧ I (k + i + 1) (wipeE ρ3 own) (acc ++ [d])) ∧ (b = false → I (k + i + 1) (wipeE ρ2 own) acc)) →
    ∃ ρ' acc', compR own bind cond elt xs ρ acc = .ok (acc', ρ') ∧ I (k + xs.length) ρ' acc'
  | [], k, ρ, acc, h, _, _ => ⟨ρ, acc, rfl, h⟩
  | x :: xs, k, ρ, acc, h, hl, step => by
    simp only [List.length_cons] at hl
    obtain ⟨ρ1, ρ2, b, h1, h2, h3, h4⟩ := step 0 x ρ acc rfl h
    have st : ∀ i y ρ acc, xs[i]? = some y → I (k + 1 + i) ρ acc → ∃ ρ1 ρ2 b, bind y ρ = some ρ1 ∧ cond ρ1 = .ok (b, ρ2) ∧ (b = true → ∃ r d ρ3, elt ρ2 = .ok (r, ρ3) ∧ keep r = some d ∧ I (k + 1 + i + 1) (wipeE ρ3 own) (acc ++ [d])) ∧ (b = false → I (k + 1 + i + 1) (wipeE ρ2 own) acc) := fun i y ρ acc hy hI => by
      have e1 : k + 1 + i = k + (i + 1) := by omega
      rw [e1] at hI ⊢
      exact step (i + 1) y ρ acc (by simpa using hy) hI
    have e2 : k + (x :: xs).length = k + 1 + xs.length := by simp; omega
    rw [e2]
    cases b with
    | false =>
      simp only [compR, h1, ofO_some, bnd_ok, h2, Bool.false_eq_true, if_false]
      exact comp_inv xs (k + 1) _ acc (h4 rfl) (by omega) st
    | true =>
      obtain ⟨r, d, ρ3, h5, h7, h6⟩ := h3 rfl
      simp only [compR, h1, ofO_some, bnd_ok, h2, if_true, h5, h7]
      rw [if_pos (by omega)]
      exact comp_inv xs (k + 1) _ _ h6 (by simp only [List.length_append, List.length_singleton]; omega) st
end
section
variable {bind : PyData → Env → Option Env} {body : EvS}
theorem for_inv {I : Nat → Env → Prop} : ∀ (xs : List PyData) (k : Nat) (ρ : Env), I k ρ →
    (∀ i x ρ, xs[i]? = some x → I (k + i) ρ → ∃ ρ1 ρ2, bind x ρ = some ρ1 ∧ (body ρ1 = .ok (.nxt ρ2) ∨ body ρ1 = .ok (.cnt ρ2)) ∧ I (k + i + 1) ρ2) → ∃ ρ', forR bind body xs ρ = .ok (.nxt ρ') ∧ I (k + xs.length) ρ'
  | [], k, ρ, h, _ => ⟨ρ, rfl, h⟩
  | x :: xs, k, ρ, h, step => by
    obtain ⟨ρ1, ρ2, h1, h2, h3⟩ := step 0 x ρ rfl h
    have st : ∀ i y ρ, xs[i]? = some y → I (k + 1 + i) ρ → ∃ ρ1 ρ2, bind y ρ = some ρ1 ∧ (body ρ1 = .ok (.nxt ρ2) ∨ body ρ1 = .ok (.cnt ρ2)) ∧ I (k + 1 + i + 1) ρ2 := fun i y ρ hy hI => by
      have e1 : k + 1 + i = k + (i + 1) := by omega
      rw [e1] at hI ⊢
      exact step (i + 1) y ρ (by simpa using hy) hI
    have e2 : k + (x :: xs).length = k + 1 + xs.length := by simp; omega
    rw [e2]
    obtain ⟨ρ', h4, h5⟩ := for_inv xs (k + 1) ρ2 h3 st
    refine ⟨ρ', ?_, h5⟩
    rcases h2 with h2 | h2 <;> simp only [forR, h1, ofO_some, bnd_ok, h2, h4]
/-- a loop that may leave by a return -/
theorem for_ret {I : Nat → Env → Prop} {R : RV → Env → Prop} : ∀ (xs : List PyData) (k : Nat) (ρ : Env), I k ρ →
    (∀ i x ρ, xs[i]? = some x → I (k + i) ρ → ∃ ρ1, bind x ρ = some ρ1 ∧ ((∃ ρ2, (body ρ1 = .ok (.nxt ρ2) ∨ body ρ1 = .ok (.cnt ρ2)) ∧ I (k + i + 1) ρ2) ∨ ∃ r ρ2, body ρ1 = .ok (.ret r ρ2) ∧ R r ρ2)) →
    (∃ ρ', forR bind body xs ρ = .ok (.nxt ρ') ∧ I (k + xs.length) ρ') ∨ ∃ r ρ', forR bind body xs ρ = .ok (.ret r ρ') ∧ R r ρ'
  | [], k, ρ, h, _ => .inl ⟨ρ, rfl, h⟩
  | x :: xs, k, ρ, h, step => by
    obtain ⟨ρ1, h1, h2⟩ := step 0 x ρ rfl h
    have st : ∀ i y ρ, xs[i]? = some y → I (k + 1 + i) ρ → ∃ ρ1, bind y ρ = some ρ1 ∧ ((∃ ρ2, (body ρ1 = .ok (.nxt ρ2) ∨ body ρ1 = .ok (.cnt ρ2)) ∧ I (k + 1 + i + 1) ρ2) ∨ ∃ r ρ2, body ρ1 = .ok (.ret r ρ2) ∧ R r ρ2) := fun i y ρ hy hI => by
      have e1 : k + 1 + i = k + (i + 1) := by omega
      rw [e1] at hI ⊢
      exact step (i + 1) y ρ (by simpa using hy) hI
    have e2 : k + (x :: xs).length = k + 1 + xs.length := by simp; omega
    rw [e2]
    rcases h2 with ⟨ρ2, h2, h3⟩ | ⟨r, ρ2, h2, h3⟩
    · rcases for_ret xs (k + 1) ρ2 h3 st with ⟨ρ', h4, h5⟩ | ⟨r, ρ', h4, h5⟩
      · refine .inl ⟨ρ', ?_, h5⟩
        rcases h2 with h2 | h2 <;> simp only [forR, h1, ofO_some, bnd_ok, h2, h4]
      · refine .inr ⟨r, ρ', ?_, h5⟩
        rcases h2 with h2 | h2 <;> simp only [forR, h1, ofO_some, bnd_ok, h2, h4]
    · exact .inr ⟨r, ρ2, by simp only [forR, h1, ofO_some, bnd_ok, h2], h3⟩
end
/-! ### parts and places -/
theorem slc_to {xs : List PyData} {k : Nat} : slcD (.tuple xs) none (some (k : Int)) = some (.v (.tuple (xs.take k))) := by
  simp only [slcD, cutG, HT.sIx_none, HT.sIx_nat, List.drop_zero, Nat.sub_zero]
  congr 3
  rw [← List.take_take]
  simp
theorem slc_from {xs : List PyData} {k : Nat} : slcD (.tuple xs) (some (k : Int)) none = some (.v (.tuple (xs.drop k))) := by
  simp only [slcD, cutG, HT.sIx_none, HT.sIx_nat]
  congr 3
  by_cases h : k ≤ xs.length
  · rw [Nat.min_eq_left h, List.take_of_length_le (by rw [List.length_drop]; omega)]
  · rw [Nat.min_eq_right (by omega), List.drop_eq_nil_of_le (Nat.le_refl _), List.drop_eq_nil_of_le (by omega)]
    simp
theorem slc_init {xs : List PyData} : slcD (.tuple xs) none (some (-1)) = some (.v (.tuple xs.dropLast)) := by
  simp only [slcD, cutG, HT.sIx_none, List.drop_zero, Nat.sub_zero, HT.sIx]
  rw [if_pos (by decide), List.dropLast_eq_take]
  congr 4
  omega
theorem lslc_to {xs : List PyData} {k : Nat} : slcD (.list xs) none (some (k : Int)) = some (.m (.l (xs.take k))) := by
  simp only [slcD, cutG, HT.sIx_none, HT.sIx_nat, List.drop_zero, Nat.sub_zero]
  congr 3
  rw [← List.take_take]
  simp
theorem atI_nat {α : Type} {xs : List α} {k : Nat} (h : k < xs.length) : L2.atI xs (k : Int) = some xs[k] := by
  unfold L2.atI L2.ixN
  rw [if_pos (by omega), if_pos (by omega)]
  simp [h]
theorem ixN_nat {n k : Nat} (h : k < n) : L2.ixN n (k : Int) = some k := by
  unfold L2.ixN
  rw [if_pos (by omega), if_pos (by omega)]
  simp
theorem atI_0 {α : Type} {a : α} {l : List α} : L2.atI (a :: l) 0 = some a := by
  unfold L2.atI L2.ixN
  rw [if_pos (by decide), if_pos (by simp only [List.length_cons]; omega)]
  rfl
theorem atI_1 {α : Type} {a b : α} {l : List α} : L2.atI (a :: b :: l) 1 = some b := by
  unfold L2.atI L2.ixN
  rw [if_pos (by decide), if_pos (by simp only [List.length_cons]; omega)]
  rfl
theorem atI_2 {α : Type} {a b c : α} {l : List α} : L2.atI (a :: b :: c :: l) 2 = some c := by
  unfold L2.atI L2.ixN
  rw [if_pos (by decide), if_pos (by simp only [List.length_cons]; omega)]
  rfl
theorem atI_3 {α : Type} {a b c d : α} {l : List α} : L2.atI (a :: b :: c :: d :: l) 3 = some d := by
  unfold L2.atI L2.ixN
  rw [if_pos (by decide), if_pos (by simp only [List.length_cons]; omega)]
  rfl
theorem atI_4 {α : Type} {a b c d e : α} {l : List α} : L2.atI (a :: b :: c :: d :: e :: l) 4 = some e := by
  unfold L2.atI L2.ixN
  rw [if_pos (by decide), if_pos (by simp only [List.length_cons]; omega)]
  rfl
theorem atI_5 {α : Type} {a b c d e f : α} {l : List α} : L2.atI (a :: b :: c :: d :: e :: f :: l) 5 = some f := by
  unfold L2.atI L2.ixN
  rw [if_pos (by decide), if_pos (by simp only [List.length_cons]; omega)]
  rfl
theorem atI_6 {α : Type} {a b c d e f g : α} {l : List α} : L2.atI (a :: b :: c :: d :: e :: f :: g :: l) 6 = some g := by
  unfold L2.atI L2.ixN
  rw [if_pos (by decide), if_pos (by simp only [List.length_cons]; omega)]
  rfl
theorem atI_7 {α : Type} {a b c d e f g h : α} {l : List α} : L2.atI (a :: b :: c :: d :: e :: f :: g :: h :: l) 7 = some h := by
  unfold L2.atI L2.ixN
  rw [if_pos (by decide), if_pos (by simp only [List.length_cons]; omega)]
  rfl
theorem atI_8 {α : Type} {a b c d e f g h i : α} {l : List α} : L2.atI (a :: b :: c :: d :: e :: f :: g :: h :: i :: l) 8 = some i := by
  unfold L2.atI L2.ixN
  rw [if_pos (by decide), if_pos (by simp only [List.length_cons]; omega)]
  rfl
theorem atI_9 {α : Type} {a b c d e f g h i j : α} {l : List α} : L2.atI (a :: b :: c :: d :: e :: f :: g :: h :: i :: j :: l) 9 = some j := by
  unfold L2.atI L2.ixN
  rw [if_pos (by decide), if_pos (by simp only [List.length_cons]; omega)]
  rfl
theorem atI_mem {α : Type} {xs : List α} {k : Nat} (h : k < xs.length) : ∃ x, L2.atI xs (k : Int) = some x ∧ x ∈ xs := ⟨_, atI_nat h, List.getElem_mem h⟩
theorem atI_ints {ns : List Int} {k : Nat} (h : k < ns.length) : L2.atI (ns.map PyData.int) (k : Int) = some (.int ns[k]) := by
  rw [atI_nat (by rw [List.length_map]; exact h)]; simp

/-! ### small data -/
def nz (L : Nat) : Nat → PyData → Prop
  | _, .none => True
  | _, .bool _ => True
  | _, .int i => i.natAbs ≤ 1000 * L
  | _, .str x => x.length ≤ L ∧ PyData.strOk x = true
  | D + 1, .list xs => xs.length ≤ L ∧ ∀ x ∈ xs, nz L D x
  | D + 1, .tuple xs => xs.length ≤ L ∧ ∀ x ∈ xs, nz L D x
  | _, _ => False
theorem nz_mono {L L' : Nat} (hL : L ≤ L') : ∀ {D D' : Nat} {d : PyData}, D ≤ D' → nz L D d → nz L' D' d
  | D, D', .none, _, _ => by simp [nz]
  | D, D', .bool _, _, _ => by simp [nz]
  | D, D', .int i, _, h => by simp only [nz] at h ⊢; omega
  | D, D', .str x, _, h => by simp only [nz] at h ⊢; exact ⟨by omega, h.2⟩
  | 0, D', .list _, _, h => by simp [nz] at h
  | 0, D', .tuple _, _, h => by simp [nz] at h
  | D, D', .dict _, _, h => by cases D <;> simp [nz] at h
  | D + 1, 0, .list _, hD, h => by omega
  | D + 1, 0, .tuple _, hD, h => by omega
  | D + 1, D' + 1, .list xs, hD, h => by
    simp only [nz] at h ⊢
    exact ⟨by omega, fun x hx => nz_mono hL (by omega) (h.2 x hx)⟩
  | D + 1, D' + 1, .tuple xs, hD, h => by
    simp only [nz] at h ⊢
    exact ⟨by omega, fun x hx => nz_mono hL (by omega) (h.2 x hx)⟩
theorem nz_tup {L D : Nat} {xs : List PyData} (h : nz L D (.tuple xs)) : xs.length ≤ L ∧ ∃ D', D = D' + 1 ∧ ∀ x ∈ xs, nz L D' x := by
  cases D with
  | zero => simp [nz] at h
  | succ D => simp only [nz] at h; exact ⟨h.1, D, rfl, h.2⟩
theorem nz_lst {L D : Nat} {xs : List PyData} (h : nz L D (.list xs)) : xs.length ≤ L ∧ ∃ D', D = D' + 1 ∧ ∀ x ∈ xs, nz L D' x := by
  cases D with
  | zero => simp [nz] at h
  | succ D => simp only [nz] at h; exact ⟨h.1, D, rfl, h.2⟩
theorem canLayAll_iff {xs : List PyData} : PyData.canLayAll0 xs = true ↔ ∀ x ∈ xs, PyData.canLay0 x = true := by
  induction xs with
  | nil => simp [PyData.canLayAll0]
  | cons x xs ih => simp [PyData.canLayAll0, ih]
theorem depthAll_le {D : Nat} {xs : List PyData} : PyData.depthAll xs ≤ D ↔ ∀ x ∈ xs, PyData.depth x ≤ D := by
  induction xs with
  | nil => simp [PyData.depthAll]
  | cons x xs ih => simp [PyData.depthAll, Nat.max_le, ih]
theorem nz_lay {L : Nat} : ∀ {D : Nat} {d : PyData}, nz L D d → d.canLay0 = true ∧ d.depth ≤ D
  | D, .none, _ => by simp [PyData.canLay0, PyData.depth]
  | D, .bool _, _ => by simp [PyData.canLay0, PyData.depth]
  | D, .int _, _ => by simp [PyData.canLay0, PyData.depth]
  | D, .str x, h => by simp only [nz] at h; simp [PyData.canLay0, PyData.depth, h.2]
  | 0, .list _, h => by simp [nz] at h
  | 0, .tuple _, h => by simp [nz] at h
  | D, .dict _, h => by cases D <;> simp [nz] at h
  | D + 1, .list xs, h => by
    simp only [nz] at h
    have ih := fun x hx => nz_lay (h.2 x hx)
    simp only [PyData.canLay0, PyData.depth]
    exact ⟨canLayAll_iff.mpr fun x hx => (ih x hx).1, Nat.add_le_add_right (depthAll_le.mpr fun x hx => (ih x hx).2) 1⟩
  | D + 1, .tuple xs, h => by
    simp only [nz] at h
    have ih := fun x hx => nz_lay (h.2 x hx)
    simp only [PyData.canLay0, PyData.depth]
    exact ⟨canLayAll_iff.mpr fun x hx => (ih x hx).1, Nat.add_le_add_right (depthAll_le.mpr fun x hx => (ih x hx).2) 1⟩
theorem nz_take {L D k : Nat} {xs : List PyData} (h : ∀ x ∈ xs, nz L D x) : ∀ x ∈ xs.take k, nz L D x := fun x hx => h x (List.mem_of_mem_take hx)
theorem nz_drop {L D k : Nat} {xs : List PyData} (h : ∀ x ∈ xs, nz L D x) : ∀ x ∈ xs.drop k, nz L D x := fun x hx => h x (List.mem_of_mem_drop hx)
theorem nz_app {L D : Nat} {xs ys : List PyData} (h : ∀ x ∈ xs, nz L D x) (h2 : ∀ x ∈ ys, nz L D x) : ∀ x ∈ xs ++ ys, nz L D x := fun x hx => (List.mem_append.mp hx).elim (h x) (h2 x)
theorem nz_set {L D k : Nat} {y : PyData} {xs : List PyData} (h : ∀ x ∈ xs, nz L D x) (hy : nz L D y) : ∀ x ∈ xs.set k y, nz L D x := fun x hx => (List.mem_or_eq_of_mem_set hx).elim (h x) fun e => e ▸ hy
theorem nz_ofT {L D : Nat} {xs : List PyData} (hl : xs.length ≤ L) (h : ∀ x ∈ xs, nz L D x) : nz L (D + 1) (.tuple xs) := by simp only [nz]; exact ⟨hl, h⟩
theorem nz_ofL {L D : Nat} {xs : List PyData} (hl : xs.length ≤ L) (h : ∀ x ∈ xs, nz L D x) : nz L (D + 1) (.list xs) := by simp only [nz]; exact ⟨hl, h⟩
theorem str_len_append (x y : Str) : (x ++ y).length = x.length + y.length := by
  show (x.cps ++ y.cps).size = _
  rw [Array.size_append]; rfl
theorem str_ok_append {x y : Str} (h : PyData.strOk x = true) (h2 : PyData.strOk y = true) : PyData.strOk (x ++ y) = true := by
  show (x.cps ++ y.cps).all (· < 0x110000) = true
  rw [Array.all_append]
  exact Bool.and_eq_true_iff.mpr ⟨h, h2⟩
theorem str_len_cut (x : Str) (lo hi : Option Int) : (L2.cutS x lo hi).length ≤ x.length := by
  show (((x.cps.toList.drop _).take _).toArray).size ≤ _
  rw [List.size_toArray, List.length_take, List.length_drop]
  have : x.cps.toList.length = x.length := by rw [Array.length_toList]; rfl
  omega
theorem str_ok_cut {x : Str} (h : PyData.strOk x = true) (lo hi : Option Int) : PyData.strOk (L2.cutS x lo hi) = true := by
  show (((x.cps.toList.drop _).take _).toArray).all (· < 0x110000) = true
  have h : x.cps.all (· < 0x110000) = true := h
  rw [← Array.all_toList, List.all_eq_true] at h
  rw [← Array.all_toList, List.all_eq_true]
  intro c hc
  refine h c ?_
  have hc : c ∈ (x.cps.toList.drop (HT.sIx x.length 0 lo)).take (HT.sIx x.length x.length hi - HT.sIx x.length 0 lo) := by simpa using hc
  exact List.mem_of_mem_drop (List.mem_of_mem_take hc)
def nzb (L : Nat) : Nat → PyData → Bool
  | _, .none => true
  | _, .bool _ => true
  | _, .int i => decide (i.natAbs ≤ 1000 * L)
  | _, .str x => decide (x.length ≤ L) && PyData.strOk x
  | D + 1, .list xs => decide (xs.length ≤ L) && xs.all (nzb L D)
  | D + 1, .tuple xs => decide (xs.length ≤ L) && xs.all (nzb L D)
  | _, _ => false
theorem nzb_ok {L : Nat} : ∀ {D : Nat} {d : PyData}, nzb L D d = true → nz L D d
  | D, .none, _ => by simp [nz]
  | D, .bool _, _ => by simp [nz]
  | D, .int _, h => by simp only [nzb, decide_eq_true_eq] at h; simp only [nz]; exact h
  | D, .str x, h => by simp only [nzb, Bool.and_eq_true, decide_eq_true_eq] at h; simp only [nz]; exact h
  | 0, .list _, h => by simp [nzb] at h
  | 0, .tuple _, h => by simp [nzb] at h
  | D, .dict _, h => by cases D <;> simp [nzb] at h
  | D + 1, .list xs, h => by
    simp only [nzb, Bool.and_eq_true, decide_eq_true_eq, List.all_eq_true] at h
    exact nz_ofL h.1 fun x hx => nzb_ok (h.2 x hx)
  | D + 1, .tuple xs, h => by
    simp only [nzb, Bool.and_eq_true, decide_eq_true_eq, List.all_eq_true] at h
    exact nz_ofT h.1 fun x hx => nzb_ok (h.2 x hx)
/-- a literal value, small -/
theorem nz_lit {L D : Nat} {d : PyData} (h : nzb 10 5 d = true) (hL : 10 ≤ L) (hD : 5 ≤ D) : nz L D d := nz_mono hL hD (nzb_ok h)
theorem nz_lits {L D : Nat} {xs : List PyData} (h : xs.all (nzb 10 5) = true) (hL : 10 ≤ L) (hD : 5 ≤ D) : ∀ x ∈ xs, nz L D x := fun x hx => nz_lit (List.all_eq_true.mp h x hx) hL hD

/-! ### slots by number -/
theorem slot_0 {x0 : Option SV} {l : Env} : slot (x0 :: l) 0 = x0 := opq rfl
theorem slot_1 {x0 x1 : Option SV} {l : Env} : slot (x0 :: x1 :: l) 1 = x1 := opq rfl
theorem slot_2 {x0 x1 x2 : Option SV} {l : Env} : slot (x0 :: x1 :: x2 :: l) 2 = x2 := opq rfl
theorem slot_3 {x0 x1 x2 x3 : Option SV} {l : Env} : slot (x0 :: x1 :: x2 :: x3 :: l) 3 = x3 := opq rfl
theorem slot_4 {x0 x1 x2 x3 x4 : Option SV} {l : Env} : slot (x0 :: x1 :: x2 :: x3 :: x4 :: l) 4 = x4 := opq rfl
theorem slot_5 {x0 x1 x2 x3 x4 x5 : Option SV} {l : Env} : slot (x0 :: x1 :: x2 :: x3 :: x4 :: x5 :: l) 5 = x5 := opq rfl
theorem slot_6 {x0 x1 x2 x3 x4 x5 x6 : Option SV} {l : Env} : slot (x0 :: x1 :: x2 :: x3 :: x4 :: x5 :: x6 :: l) 6 = x6 := opq rfl
theorem slot_7 {x0 x1 x2 x3 x4 x5 x6 x7 : Option SV} {l : Env} : slot (x0 :: x1 :: x2 :: x3 :: x4 :: x5 :: x6 :: x7 :: l) 7 = x7 := opq rfl
theorem slot_8 {x0 x1 x2 x3 x4 x5 x6 x7 x8 : Option SV} {l : Env} : slot (x0 :: x1 :: x2 :: x3 :: x4 :: x5 :: x6 :: x7 :: x8 :: l) 8 = x8 := opq rfl
theorem slot_9 {x0 x1 x2 x3 x4 x5 x6 x7 x8 x9 : Option SV} {l : Env} : slot (x0 :: x1 :: x2 :: x3 :: x4 :: x5 :: x6 :: x7 :: x8 :: x9 :: l) 9 = x9 := opq rfl
theorem slot_10 {x0 x1 x2 x3 x4 x5 x6 x7 x8 x9 x10 : Option SV} {l : Env} : slot (x0 :: x1 :: x2 :: x3 :: x4 :: x5 :: x6 :: x7 :: x8 :: x9 :: x10 :: l) 10 = x10 := opq rfl
theorem slot_11 {x0 x1 x2 x3 x4 x5 x6 x7 x8 x9 x10 x11 : Option SV} {l : Env} : slot (x0 :: x1 :: x2 :: x3 :: x4 :: x5 :: x6 :: x7 :: x8 :: x9 :: x10 :: x11 :: l) 11 = x11 := opq rfl
theorem slot_12 {x0 x1 x2 x3 x4 x5 x6 x7 x8 x9 x10 x11 x12 : Option SV} {l : Env} : slot (x0 :: x1 :: x2 :: x3 :: x4 :: x5 :: x6 :: x7 :: x8 :: x9 :: x10 :: x11 :: x12 :: l) 12 = x12 := opq rfl
theorem slot_13 {x0 x1 x2 x3 x4 x5 x6 x7 x8 x9 x10 x11 x12 x13 : Option SV} {l : Env} : slot (x0 :: x1 :: x2 :: x3 :: x4 :: x5 :: x6 :: x7 :: x8 :: x9 :: x10 :: x11 :: x12 :: x13 :: l) 13 = x13 := opq rfl
theorem slot_14 {x0 x1 x2 x3 x4 x5 x6 x7 x8 x9 x10 x11 x12 x13 x14 : Option SV} {l : Env} : slot (x0 :: x1 :: x2 :: x3 :: x4 :: x5 :: x6 :: x7 :: x8 :: x9 :: x10 :: x11 :: x12 :: x13 :: x14 :: l) 14 = x14 := opq rfl
theorem slot_15 {x0 x1 x2 x3 x4 x5 x6 x7 x8 x9 x10 x11 x12 x13 x14 x15 : Option SV} {l : Env} : slot (x0 :: x1 :: x2 :: x3 :: x4 :: x5 :: x6 :: x7 :: x8 :: x9 :: x10 :: x11 :: x12 :: x13 :: x14 :: x15 :: l) 15 = x15 := opq rfl
theorem slot_16 {x0 x1 x2 x3 x4 x5 x6 x7 x8 x9 x10 x11 x12 x13 x14 x15 x16 : Option SV} {l : Env} : slot (x0 :: x1 :: x2 :: x3 :: x4 :: x5 :: x6 :: x7 :: x8 :: x9 :: x10 :: x11 :: x12 :: x13 :: x14 :: x15 :: x16 :: l) 16 = x16 := opq rfl
theorem slot_17 {x0 x1 x2 x3 x4 x5 x6 x7 x8 x9 x10 x11 x12 x13 x14 x15 x16 x17 : Option SV} {l : Env} : slot (x0 :: x1 :: x2 :: x3 :: x4 :: x5 :: x6 :: x7 :: x8 :: x9 :: x10 :: x11 :: x12 :: x13 :: x14 :: x15 :: x16 :: x17 :: l) 17 = x17 := opq rfl
theorem slot_18 {x0 x1 x2 x3 x4 x5 x6 x7 x8 x9 x10 x11 x12 x13 x14 x15 x16 x17 x18 : Option SV} {l : Env} : slot (x0 :: x1 :: x2 :: x3 :: x4 :: x5 :: x6 :: x7 :: x8 :: x9 :: x10 :: x11 :: x12 :: x13 :: x14 :: x15 :: x16 :: x17 :: x18 :: l) 18 = x18 := opq rfl
theorem slot_19 {x0 x1 x2 x3 x4 x5 x6 x7 x8 x9 x10 x11 x12 x13 x14 x15 x16 x17 x18 x19 : Option SV} {l : Env} : slot (x0 :: x1 :: x2 :: x3 :: x4 :: x5 :: x6 :: x7 :: x8 :: x9 :: x10 :: x11 :: x12 :: x13 :: x14 :: x15 :: x16 :: x17 :: x18 :: x19 :: l) 19 = x19 := opq rfl
theorem set_0 {α : Type} {x0 y : α} {l : List α} : (x0 :: l).set 0 y = y :: l := opq rfl
theorem set_1 {α : Type} {x0 x1 y : α} {l : List α} : (x0 :: x1 :: l).set 1 y = x0 :: y :: l := opq rfl
theorem set_2 {α : Type} {x0 x1 x2 y : α} {l : List α} : (x0 :: x1 :: x2 :: l).set 2 y = x0 :: x1 :: y :: l := opq rfl
theorem set_3 {α : Type} {x0 x1 x2 x3 y : α} {l : List α} : (x0 :: x1 :: x2 :: x3 :: l).set 3 y = x0 :: x1 :: x2 :: y :: l := opq rfl
theorem set_4 {α : Type} {x0 x1 x2 x3 x4 y : α} {l : List α} : (x0 :: x1 :: x2 :: x3 :: x4 :: l).set 4 y = x0 :: x1 :: x2 :: x3 :: y :: l := opq rfl
theorem set_5 {α : Type} {x0 x1 x2 x3 x4 x5 y : α} {l : List α} : (x0 :: x1 :: x2 :: x3 :: x4 :: x5 :: l).set 5 y = x0 :: x1 :: x2 :: x3 :: x4 :: y :: l := opq rfl
theorem set_6 {α : Type} {x0 x1 x2 x3 x4 x5 x6 y : α} {l : List α} : (x0 :: x1 :: x2 :: x3 :: x4 :: x5 :: x6 :: l).set 6 y = x0 :: x1 :: x2 :: x3 :: x4 :: x5 :: y :: l := opq rfl
theorem set_7 {α : Type} {x0 x1 x2 x3 x4 x5 x6 x7 y : α} {l : List α} : (x0 :: x1 :: x2 :: x3 :: x4 :: x5 :: x6 :: x7 :: l).set 7 y = x0 :: x1 :: x2 :: x3 :: x4 :: x5 :: x6 :: y :: l := opq rfl
theorem set_8 {α : Type} {x0 x1 x2 x3 x4 x5 x6 x7 x8 y : α} {l : List α} : (x0 :: x1 :: x2 :: x3 :: x4 :: x5 :: x6 :: x7 :: x8 :: l).set 8 y = x0 :: x1 :: x2 :: x3 :: x4 :: x5 :: x6 :: x7 :: y :: l := opq rfl
theorem set_9 {α : Type} {x0 x1 x2 x3 x4 x5 x6 x7 x8 x9 y : α} {l : List α} : (x0 :: x1 :: x2 :: x3 :: x4 :: x5 :: x6 :: x7 :: x8 :: x9 :: l).set 9 y = x0 :: x1 :: x2 :: x3 :: x4 :: x5 :: x6 :: x7 :: x8 :: y :: l := opq rfl
theorem set_10 {α : Type} {x0 x1 x2 x3 x4 x5 x6 x7 x8 x9 x10 y : α} {l : List α} : (x0 :: x1 :: x2 :: x3 :: x4 :: x5 :: x6 :: x7 :: x8 :: x9 :: x10 :: l).set 10 y = x0 :: x1 :: x2 :: x3 :: x4 :: x5 :: x6 :: x7 :: x8 :: x9 :: y :: l := opq rfl
theorem set_11 {α : Type} {x0 x1 x2 x3 x4 x5 x6 x7 x8 x9 x10 x11 y : α} {l : List α} : (x0 :: x1 :: x2 :: x3 :: x4 :: x5 :: x6 :: x7 :: x8 :: x9 :: x10 :: x11 :: l).set 11 y = x0 :: x1 :: x2 :: x3 :: x4 :: x5 :: x6 :: x7 :: x8 :: x9 :: x10 :: y :: l := opq rfl
theorem set_12 {α : Type} {x0 x1 x2 x3 x4 x5 x6 x7 x8 x9 x10 x11 x12 y : α} {l : List α} : (x0 :: x1 :: x2 :: x3 :: x4 :: x5 :: x6 :: x7 :: x8 :: x9 :: x10 :: x11 :: x12 :: l).set 12 y = x0 :: x1 :: x2 :: x3 :: x4 :: x5 :: x6 :: x7 :: x8 :: x9 :: x10 :: x11 :: y :: l := opq rfl
theorem set_13 {α : Type} {x0 x1 x2 x3 x4 x5 x6 x7 x8 x9 x10 x11 x12 x13 y : α} {l : List α} : (x0 :: x1 :: x2 :: x3 :: x4 :: x5 :: x6 :: x7 :: x8 :: x9 :: x10 :: x11 :: x12 :: x13 :: l).set 13 y = x0 :: x1 :: x2 :: x3 :: x4 :: x5 :: x6 :: x7 :: x8 :: x9 :: x10 :: x11 :: x12 :: y :: l := opq rfl
theorem set_14 {α : Type} {x0 x1 x2 x3 x4 x5 x6 x7 x8 x9 x10 x11 x12 x13 x14 y : α} {l : List α} : (x0 :: x1 :: x2 :: x3 :: x4 :: x5 :: x6 :: x7 :: x8 :: x9 :: x10 :: x11 :: x12 :: x13 :: x14 :: l).set 14 y = x0 :: x1 :: x2 :: x3 :: x4 :: x5 :: x6 :: x7 :: x8 :: x9 :: x10 :: x11 :: x12 :: x13 :: y :: l := opq rfl
theorem set_15 {α : Type} {x0 x1 x2 x3 x4 x5 x6 x7 x8 x9 x10 x11 x12 x13 x14 x15 y : α} {l : List α} : (x0 :: x1 :: x2 :: x3 :: x4 :: x5 :: x6 :: x7 :: x8 :: x9 :: x10 :: x11 :: x12 :: x13 :: x14 :: x15 :: l).set 15 y = x0 :: x1 :: x2 :: x3 :: x4 :: x5 :: x6 :: x7 :: x8 :: x9 :: x10 :: x11 :: x12 :: x13 :: x14 :: y :: l := opq rfl
theorem set_16 {α : Type} {x0 x1 x2 x3 x4 x5 x6 x7 x8 x9 x10 x11 x12 x13 x14 x15 x16 y : α} {l : List α} : (x0 :: x1 :: x2 :: x3 :: x4 :: x5 :: x6 :: x7 :: x8 :: x9 :: x10 :: x11 :: x12 :: x13 :: x14 :: x15 :: x16 :: l).set 16 y = x0 :: x1 :: x2 :: x3 :: x4 :: x5 :: x6 :: x7 :: x8 :: x9 :: x10 :: x11 :: x12 :: x13 :: x14 :: x15 :: y :: l := opq rfl
theorem set_17 {α : Type} {x0 x1 x2 x3 x4 x5 x6 x7 x8 x9 x10 x11 x12 x13 x14 x15 x16 x17 y : α} {l : List α} : (x0 :: x1 :: x2 :: x3 :: x4 :: x5 :: x6 :: x7 :: x8 :: x9 :: x10 :: x11 :: x12 :: x13 :: x14 :: x15 :: x16 :: x17 :: l).set 17 y = x0 :: x1 :: x2 :: x3 :: x4 :: x5 :: x6 :: x7 :: x8 :: x9 :: x10 :: x11 :: x12 :: x13 :: x14 :: x15 :: x16 :: y :: l := opq rfl
theorem set_18 {α : Type} {x0 x1 x2 x3 x4 x5 x6 x7 x8 x9 x10 x11 x12 x13 x14 x15 x16 x17 x18 y : α} {l : List α} : (x0 :: x1 :: x2 :: x3 :: x4 :: x5 :: x6 :: x7 :: x8 :: x9 :: x10 :: x11 :: x12 :: x13 :: x14 :: x15 :: x16 :: x17 :: x18 :: l).set 18 y = x0 :: x1 :: x2 :: x3 :: x4 :: x5 :: x6 :: x7 :: x8 :: x9 :: x10 :: x11 :: x12 :: x13 :: x14 :: x15 :: x16 :: x17 :: y :: l := opq rfl
theorem set_19 {α : Type} {x0 x1 x2 x3 x4 x5 x6 x7 x8 x9 x10 x11 x12 x13 x14 x15 x16 x17 x18 x19 y : α} {l : List α} : (x0 :: x1 :: x2 :: x3 :: x4 :: x5 :: x6 :: x7 :: x8 :: x9 :: x10 :: x11 :: x12 :: x13 :: x14 :: x15 :: x16 :: x17 :: x18 :: x19 :: l).set 19 y = x0 :: x1 :: x2 :: x3 :: x4 :: x5 :: x6 :: x7 :: x8 :: x9 :: x10 :: x11 :: x12 :: x13 :: x14 :: x15 :: x16 :: x17 :: x18 :: y :: l := opq rfl
theorem rep_0 {α : Type} {x : α} : List.replicate 0 x = [] := opq rfl
theorem rep_1 {α : Type} {x : α} : List.replicate 1 x = [x] := opq rfl
theorem rep_2 {α : Type} {x : α} : List.replicate 2 x = [x, x] := opq rfl
theorem rep_3 {α : Type} {x : α} : List.replicate 3 x = [x, x, x] := opq rfl
theorem rep_4 {α : Type} {x : α} : List.replicate 4 x = [x, x, x, x] := opq rfl
theorem rep_5 {α : Type} {x : α} : List.replicate 5 x = [x, x, x, x, x] := opq rfl
theorem rep_6 {α : Type} {x : α} : List.replicate 6 x = [x, x, x, x, x, x] := opq rfl
theorem rep_7 {α : Type} {x : α} : List.replicate 7 x = [x, x, x, x, x, x, x] := opq rfl
theorem rep_8 {α : Type} {x : α} : List.replicate 8 x = [x, x, x, x, x, x, x, x] := opq rfl
theorem rep_9 {α : Type} {x : α} : List.replicate 9 x = [x, x, x, x, x, x, x, x, x] := opq rfl
theorem rep_10 {α : Type} {x : α} : List.replicate 10 x = [x, x, x, x, x, x, x, x, x, x] := opq rfl
theorem rep_11 {α : Type} {x : α} : List.replicate 11 x = [x, x, x, x, x, x, x, x, x, x, x] := opq rfl
theorem rep_12 {α : Type} {x : α} : List.replicate 12 x = [x, x, x, x, x, x, x, x, x, x, x, x] := opq rfl
theorem rep_13 {α : Type} {x : α} : List.replicate 13 x = [x, x, x, x, x, x, x, x, x, x, x, x, x] := opq rfl
theorem rep_14 {α : Type} {x : α} : List.replicate 14 x = [x, x, x, x, x, x, x, x, x, x, x, x, x, x] := opq rfl
theorem rep_15 {α : Type} {x : α} : List.replicate 15 x = [x, x, x, x, x, x, x, x, x, x, x, x, x, x, x] := opq rfl
theorem rep_16 {α : Type} {x : α} : List.replicate 16 x = [x, x, x, x, x, x, x, x, x, x, x, x, x, x, x, x] := opq rfl
theorem rep_17 {α : Type} {x : α} : List.replicate 17 x = [x, x, x, x, x, x, x, x, x, x, x, x, x, x, x, x, x] := opq rfl
theorem rep_18 {α : Type} {x : α} : List.replicate 18 x = [x, x, x, x, x, x, x, x, x, x, x, x, x, x, x, x, x, x] := opq rfl
theorem rep_19 {α : Type} {x : α} : List.replicate 19 x = [x, x, x, x, x, x, x, x, x, x, x, x, x, x, x, x, x, x, x] := opq rfl
theorem nod_0 : (([] : List Nat).Nodup) = True := by simp
theorem nod_1 {a : Nat} : ([a].Nodup) = True := by simp
theorem nod_2 {a b : Nat} : ([a, b].Nodup) = ¬ a = b := by simp
theorem mapM_0 {α β : Type} {f : α → Option β} : List.mapM f [] = some [] := opq rfl
theorem mapM_1 {α β : Type} {f : α → Option β} {a : α} {x : β} (h : f a = some x) : List.mapM f [a] = some [x] := by simp [h]
theorem mapM_2 {α β : Type} {f : α → Option β} {a b : α} {x y : β} (h : f a = some x) (h2 : f b = some y) : List.mapM f [a, b] = some [x, y] := by simp [h, h2]
theorem own_v {ρ : Env} {i : Nat} {d : PyData} (h : slot ρ i = some (.v d)) : own ρ i = none := by unfold own; rw [h]; rfl
theorem own_n {ρ : Env} {i : Nat} (h : slot ρ i = none) : own ρ i = none := by unfold own; rw [h]; rfl
theorem own_m {ρ : Env} {i : Nat} {o : MO} (h : slot ρ i = some (.m o)) : own ρ i = some o := by unfold own; rw [h]; rfl
theorem own_p {ρ : Env} {i : Nat} {o : MO} (h : slot ρ i = some (.p o)) : own ρ i = some o := by unfold own; rw [h]; rfl
theorem chg_m {ρ : Env} {i : Nat} {o o' : MO} (h : slot ρ i = some (.m o)) : chg ρ i o' = ρ.set i (some (.m o')) := by unfold chg; rw [h]; rfl
theorem chg_p {ρ : Env} {i : Nat} {o o' : MO} (h : slot ρ i = some (.p o)) : chg ρ i o' = ρ.set i (some (.p o')) := by unfold chg; rw [h]; rfl
theorem bind_n {i : Nat} {d : PyData} {ρ : Env} (h : own ρ i = none) (hl : i < ρ.length) : bindTg (.n i) d ρ = some (ρ.set i (some (.v d))) := by
  show (if noMo ρ [i] = true then _ else _) = _
  rw [if_pos]
  simp [noMo, h, hl]
theorem noMo_0 {ρ : Env} : noMo ρ [] = true := opq rfl
theorem noMo_1 {ρ : Env} {i : Nat} (h : own ρ i = none) (hl : i < ρ.length) : noMo ρ [i] = true := by simp [noMo, h, hl]
theorem noMo_2 {ρ : Env} {i j : Nat} (h : own ρ i = none) (hl : i < ρ.length) (h2 : own ρ j = none) (hl2 : j < ρ.length) : noMo ρ [i, j] = true := by simp [noMo, h, hl, h2, hl2]
theorem wipe_1 {ρ : Env} {i : Nat} : wipeE ρ [i] = ρ.set i none := opq rfl
theorem wipe_2 {ρ : Env} {i j : Nat} : wipeE ρ [i, j] = (ρ.set j none).set i none := opq rfl
theorem unwipe_1 {ρ ρ' : Env} {i : Nat} : unwipe ρ ρ' [i] = ρ'.set i (slot ρ i) := opq rfl
theorem unwipe_2 {ρ ρ' : Env} {i j : Nat} : unwipe ρ ρ' [i, j] = (ρ'.set j (slot ρ j)).set i (slot ρ i) := opq rfl
theorem outs_0 {ρ : Env} : outs [] ρ = some [] := opq rfl
theorem outs_v {d : PyData} {ss : List SV} {x : Option SV} {ρ : Env} : outs (.v d :: ss) (x :: ρ) = outs ss ρ := opq rfl
theorem outs_p {o o' : MO} {ss : List SV} {ρ : Env} : outs (.p o :: ss) (some (.p o') :: ρ) = (outs ss ρ).map (o' :: ·) := opq rfl
theorem map_some' {α β : Type} {f : α → β} {a : α} : (some a).map f = some (f a) := opq rfl
theorem map_none' {α β : Type} {f : α → β} : (none : Option α).map f = none := opq rfl
theorem bind_some' {α β : Type} {f : α → Option β} {a : α} : (some a).bind f = f a := opq rfl
theorem bind_none' {α β : Type} {f : α → Option β} : (none : Option α).bind f = none := opq rfl
theorem argIn_v {ρ : Env} {d : PyData} : argIn ρ (.v d) = some (.v d) := opq rfl
theorem argIn_m {ρ : Env} {o : MO} : argIn ρ (.m o) = some (.v o.data) := opq rfl
theorem argIn_b {ρ : Env} {i : Nat} {o : MO} (h : own ρ i = some o) : argIn ρ (.b i) = some (.p o) := by
  show (own ρ i).map SV.p = _
  rw [h]; rfl
theorem argsIn_0 {ρ : Env} : argsIn ρ [] = some [] := opq rfl
theorem argsIn_c {ρ : Env} {r : RV} {rs : List RV} : argsIn ρ (r :: rs) = (argIn ρ r).bind fun s => (argsIn ρ rs).map (s :: ·) := opq rfl
theorem refs_0 : refs [] = [] := opq rfl
theorem refs_v {d : PyData} {rs : List RV} : refs (.v d :: rs) = refs rs := opq rfl
theorem refs_m {o : MO} {rs : List RV} : refs (.m o :: rs) = refs rs := opq rfl
theorem refs_b {i : Nat} {rs : List RV} : refs (.b i :: rs) = i :: refs rs := opq rfl
theorem backs_0 {ρ : Env} : backs ρ [] [] = some ρ := opq rfl
theorem backs_c {ρ : Env} {i : Nat} {is : List Nat} {o : MO} {os : List MO} : backs ρ (i :: is) (o :: os) = backs (chg ρ i o) is os := opq rfl
theorem look_v {ρ : Env} {d : PyData} : look ρ (.v d) = some d := opq rfl
theorem look_m {ρ : Env} {o : MO} : look ρ (.m o) = some o.data := opq rfl
theorem look_b {ρ : Env} {i : Nat} {o : MO} (h : own ρ i = some o) : look ρ (.b i) = some o.data := by
  show (own ρ i).map MO.data = _
  rw [h]; rfl
theorem keep_v {d : PyData} : keep (.v d) = some d := opq rfl
theorem keep_m {o : MO} : keep (.m o) = some o.data := opq rfl
theorem data_l {xs : List PyData} : (MO.l xs).data = .list xs := opq rfl
theorem isB_b {b : Bool} : isB (.v (.bool b)) = some b := opq rfl
theorem asInt_i {i : Int} : asInt (.int i) = some i := opq rfl
theorem setD_0 {x0 y : PyData} {l : List PyData} : setD (.l (x0 :: l)) (.int 0) y = some (.l (y :: l)) := by
  show (L2.ixN (x0 :: l).length 0).map _ = _
  unfold L2.ixN
  rw [if_pos (by decide), if_pos (by simp only [List.length_cons]; omega)]
  rfl
theorem setD_1 {x0 x1 y : PyData} {l : List PyData} : setD (.l (x0 :: x1 :: l)) (.int 1) y = some (.l (x0 :: y :: l)) := by
  show (L2.ixN (x0 :: x1 :: l).length 1).map _ = _
  unfold L2.ixN
  rw [if_pos (by decide), if_pos (by simp only [List.length_cons]; omega)]
  rfl
theorem setD_2 {x0 x1 x2 y : PyData} {l : List PyData} : setD (.l (x0 :: x1 :: x2 :: l)) (.int 2) y = some (.l (x0 :: x1 :: y :: l)) := by
  show (L2.ixN (x0 :: x1 :: x2 :: l).length 2).map _ = _
  unfold L2.ixN
  rw [if_pos (by decide), if_pos (by simp only [List.length_cons]; omega)]
  rfl
theorem setD_3 {x0 x1 x2 x3 y : PyData} {l : List PyData} : setD (.l (x0 :: x1 :: x2 :: x3 :: l)) (.int 3) y = some (.l (x0 :: x1 :: x2 :: y :: l)) := by
  show (L2.ixN (x0 :: x1 :: x2 :: x3 :: l).length 3).map _ = _
  unfold L2.ixN
  rw [if_pos (by decide), if_pos (by simp only [List.length_cons]; omega)]
  rfl
theorem setD_4 {x0 x1 x2 x3 x4 y : PyData} {l : List PyData} : setD (.l (x0 :: x1 :: x2 :: x3 :: x4 :: l)) (.int 4) y = some (.l (x0 :: x1 :: x2 :: x3 :: y :: l)) := by
  show (L2.ixN (x0 :: x1 :: x2 :: x3 :: x4 :: l).length 4).map _ = _
  unfold L2.ixN
  rw [if_pos (by decide), if_pos (by simp only [List.length_cons]; omega)]
  rfl
theorem setD_5 {x0 x1 x2 x3 x4 x5 y : PyData} {l : List PyData} : setD (.l (x0 :: x1 :: x2 :: x3 :: x4 :: x5 :: l)) (.int 5) y = some (.l (x0 :: x1 :: x2 :: x3 :: x4 :: y :: l)) := by
  show (L2.ixN (x0 :: x1 :: x2 :: x3 :: x4 :: x5 :: l).length 5).map _ = _
  unfold L2.ixN
  rw [if_pos (by decide), if_pos (by simp only [List.length_cons]; omega)]
  rfl
theorem setD_6 {x0 x1 x2 x3 x4 x5 x6 y : PyData} {l : List PyData} : setD (.l (x0 :: x1 :: x2 :: x3 :: x4 :: x5 :: x6 :: l)) (.int 6) y = some (.l (x0 :: x1 :: x2 :: x3 :: x4 :: x5 :: y :: l)) := by
  show (L2.ixN (x0 :: x1 :: x2 :: x3 :: x4 :: x5 :: x6 :: l).length 6).map _ = _
  unfold L2.ixN
  rw [if_pos (by decide), if_pos (by simp only [List.length_cons]; omega)]
  rfl
theorem setD_7 {x0 x1 x2 x3 x4 x5 x6 x7 y : PyData} {l : List PyData} : setD (.l (x0 :: x1 :: x2 :: x3 :: x4 :: x5 :: x6 :: x7 :: l)) (.int 7) y = some (.l (x0 :: x1 :: x2 :: x3 :: x4 :: x5 :: x6 :: y :: l)) := by
  show (L2.ixN (x0 :: x1 :: x2 :: x3 :: x4 :: x5 :: x6 :: x7 :: l).length 7).map _ = _
  unfold L2.ixN
  rw [if_pos (by decide), if_pos (by simp only [List.length_cons]; omega)]
  rfl
theorem setD_nat {xs : List PyData} {j : Nat} {y : PyData} (h : j < xs.length) : setD (.l xs) (.int (j : Int)) y = some (.l (xs.set j y)) := by
  show (L2.ixN xs.length (j : Int)).map _ = _
  rw [ixN_nat h]; rfl
theorem setD_int {ks : List (L2.Key × PyData)} {i : Int} {y : PyData} (h : ks.length < lim) : setD (.d ks) (.int i) y = some (.d (putP ks (.inl i) y)) := by
  show ((some (Sum.inl i)).bind fun k => if ks.length < lim then some (MO.d (putP ks k y)) else none) = _
  simp [h]
theorem look_b' {ρ : Env} {i : Nat} : look ρ (.b i) = (own ρ i).map MO.data := opq rfl
theorem argIn_b' {ρ : Env} {i : Nat} : argIn ρ (.b i) = (own ρ i).map SV.p := opq rfl
theorem keep_b' {i : Nat} : keep (.b i) = none := opq rfl
theorem mapM_c {α β : Type} {f : α → Option β} {a : α} {l : List α} : List.mapM f (a :: l) = (f a).bind fun x => (List.mapM f l).map (x :: ·) := by
  rw [List.mapM_cons]
  cases f a with
  | none => rfl
  | some x => cases List.mapM f l <;> rfl
theorem noMo_c {ρ : Env} {i : Nat} {is : List Nat} : noMo ρ (i :: is) = (((own ρ i).isNone && decide (i < ρ.length)) && noMo ρ is) := opq rfl
theorem bind_n' {i : Nat} {d : PyData} {ρ : Env} : bindTg (.n i) d ρ = if noMo ρ [i] = true then some (ρ.set i (some (.v d))) else none := opq rfl
theorem own_u {ρ : Env} {i : Nat} : own ρ i = (slot ρ i).bind SV.mo := opq rfl
theorem mo_v {d : PyData} : SV.mo (.v d) = none := opq rfl
theorem mo_m {o : MO} : SV.mo (.m o) = some o := opq rfl
theorem mo_p {o : MO} : SV.mo (.p o) = some o := opq rfl
theorem put_m {o o' : MO} : SV.put (.m o) o' = .m o' := opq rfl
theorem put_p {o o' : MO} : SV.put (.p o) o' = .p o' := opq rfl
theorem chg_u {ρ : Env} {i : Nat} {o : MO} : chg ρ i o = ρ.set i ((slot ρ i).map fun s => s.put o) := opq rfl
theorem isNone_n {α : Type} : (none : Option α).isNone = true := opq rfl
theorem isNone_s {α : Type} {a : α} : (some a).isNone = false := opq rfl
theorem cmp_lt {i j : Int} : cmpD .lt (.int i) (.int j) = some (decide (i < j)) := opq rfl
theorem cmp_le {i j : Int} : cmpD .le (.int i) (.int j) = some (decide (i ≤ j)) := opq rfl
theorem cmp_gt {i j : Int} : cmpD .gt (.int i) (.int j) = some (decide (j < i)) := opq rfl
theorem cmp_ge {i j : Int} : cmpD .ge (.int i) (.int j) = some (decide (j ≤ i)) := opq rfl
theorem eq_of_lay {x y : PyData} (h : x.canLay0 = true) (h2 : y.canLay0 = true) (hd : min x.depth y.depth ≤ 150) : cmpD .eq x y = some (PyData.eqv x y) := by
  have e : eqOk x y = true := by unfold eqOk; rw [h, h2, decide_eq_true hd]; rfl
  show (if eqOk x y = true then some (PyData.eqv x y) else _) = _
  rw [if_pos e]
theorem ne_of_lay {x y : PyData} (h : x.canLay0 = true) (h2 : y.canLay0 = true) (hd : min x.depth y.depth ≤ 150) : cmpD .ne x y = some (!PyData.eqv x y) := by
  have e : eqOk x y = true := by unfold eqOk; rw [h, h2, decide_eq_true hd]; rfl
  show (if eqOk x y = true then some (!PyData.eqv x y) else none) = _
  rw [if_pos e]
theorem eq_ii {i j : Int} : cmpD .eq (.int i) (.int j) = some (decide (i = j)) := by
  rw [eq_of_lay (by simp [PyData.canLay0]) (by simp [PyData.canLay0]) (by simp [PyData.depth])]
  by_cases h : i = j <;> simp [PyData.eqv, h]
theorem ne_ii {i j : Int} : cmpD .ne (.int i) (.int j) = some (!decide (i = j)) := by
  rw [ne_of_lay (by simp [PyData.canLay0]) (by simp [PyData.canLay0]) (by simp [PyData.depth])]
  by_cases h : i = j <;> simp [PyData.eqv, h]
theorem eq_bb {i j : Bool} : cmpD .eq (.bool i) (.bool j) = some (i == j) := by
  rw [eq_of_lay (by simp [PyData.canLay0]) (by simp [PyData.canLay0]) (by simp [PyData.depth])]
  simp [PyData.eqv]
theorem ne_bb {i j : Bool} : cmpD .ne (.bool i) (.bool j) = some (!(i == j)) := by
  rw [ne_of_lay (by simp [PyData.canLay0]) (by simp [PyData.canLay0]) (by simp [PyData.depth])]
  simp [PyData.eqv]
theorem eq_ss {x y : Str} (h : PyData.strOk x = true) (h2 : PyData.strOk y = true) : cmpD .eq (.str x) (.str y) = some (x == y) := by
  rw [eq_of_lay (by simpa [PyData.canLay0] using h) (by simpa [PyData.canLay0] using h2) (by simp [PyData.depth])]
  simp [PyData.eqv]
theorem ne_ss {x y : Str} (h : PyData.strOk x = true) (h2 : PyData.strOk y = true) : cmpD .ne (.str x) (.str y) = some (!(x == y)) := by
  rw [ne_of_lay (by simpa [PyData.canLay0] using h) (by simpa [PyData.canLay0] using h2) (by simp [PyData.depth])]
  simp [PyData.eqv]
theorem cast_0 : ((0 : Nat) : Int) = 0 := opq rfl
theorem cast_1 : ((1 : Nat) : Int) = 1 := opq rfl
theorem cast_2 : ((2 : Nat) : Int) = 2 := opq rfl
theorem cast_3 : ((3 : Nat) : Int) = 3 := opq rfl
theorem cast_4 : ((4 : Nat) : Int) = 4 := opq rfl
theorem cast_5 : ((5 : Nat) : Int) = 5 := opq rfl
theorem cast_6 : ((6 : Nat) : Int) = 6 := opq rfl
theorem cast_7 : ((7 : Nat) : Int) = 7 := opq rfl
theorem cast_8 : ((8 : Nat) : Int) = 8 := opq rfl
theorem cast_9 : ((9 : Nat) : Int) = 9 := opq rfl
theorem cast_10 : ((10 : Nat) : Int) = 10 := opq rfl
theorem cast_11 : ((11 : Nat) : Int) = 11 := opq rfl
theorem cast_12 : ((12 : Nat) : Int) = 12 := opq rfl
theorem q_evSs_1 : type_of% @evSs.eq_1 := opq @evSs.eq_1
theorem q_evSs_2 : type_of% @evSs.eq_2 := opq @evSs.eq_2
theorem q_evS_1 : type_of% @evS.eq_1 := opq @evS.eq_1
theorem q_evS_2 : type_of% @evS.eq_2 := opq @evS.eq_2
theorem q_evS_3 : type_of% @evS.eq_3 := opq @evS.eq_3
theorem q_evS_4 : type_of% @evS.eq_4 := opq @evS.eq_4
theorem q_evS_5 : type_of% @evS.eq_5 := opq @evS.eq_5
theorem q_evS_6 : type_of% @evS.eq_6 := opq @evS.eq_6
theorem q_evS_7 : type_of% @evS.eq_7 := opq @evS.eq_7
theorem q_evS_8 : type_of% @evS.eq_8 := opq @evS.eq_8
theorem q_evS_9 : type_of% @evS.eq_9 := opq @evS.eq_9
theorem q_evS_10 : type_of% @evS.eq_10 := opq @evS.eq_10
theorem q_evS_11 : type_of% @evS.eq_11 := opq @evS.eq_11
theorem q_evS_12 : type_of% @evS.eq_12 := opq @evS.eq_12
theorem q_evS_13 : type_of% @evS.eq_13 := opq @evS.eq_13
theorem q_evS_14 : type_of% @evS.eq_14 := opq @evS.eq_14
theorem q_evS_15 : type_of% @evS.eq_15 := opq @evS.eq_15
theorem q_evS_16 : type_of% @evS.eq_16 := opq @evS.eq_16
theorem q_ev_1 : type_of% @ev.eq_1 := opq @ev.eq_1
theorem q_ev_2 : type_of% @ev.eq_2 := opq @ev.eq_2
theorem q_ev_3 : type_of% @ev.eq_3 := opq @ev.eq_3
theorem q_ev_4 : type_of% @ev.eq_4 := opq @ev.eq_4
theorem q_ev_5 : type_of% @ev.eq_5 := opq @ev.eq_5
theorem q_ev_6 : type_of% @ev.eq_6 := opq @ev.eq_6
theorem q_ev_7 : type_of% @ev.eq_7 := opq @ev.eq_7
theorem q_ev_8 : type_of% @ev.eq_8 := opq @ev.eq_8
theorem q_ev_9 : type_of% @ev.eq_9 := opq @ev.eq_9
theorem q_ev_10 : type_of% @ev.eq_10 := opq @ev.eq_10
theorem q_ev_11 : type_of% @ev.eq_11 := opq @ev.eq_11
theorem q_ev_12 : type_of% @ev.eq_12 := opq @ev.eq_12
theorem q_ev_13 : type_of% @ev.eq_13 := opq @ev.eq_13
theorem q_ev_14 : type_of% @ev.eq_14 := opq @ev.eq_14
theorem q_ev_15 : type_of% @ev.eq_15 := opq @ev.eq_15
theorem q_ev_16 : type_of% @ev.eq_16 := opq @ev.eq_16
theorem q_ev_17 : type_of% @ev.eq_17 := opq @ev.eq_17
theorem q_ev_18 : type_of% @ev.eq_18 := opq @ev.eq_18
theorem q_ev_19 : type_of% @ev.eq_19 := opq @ev.eq_19
theorem q_ev_20 : type_of% @ev.eq_20 := opq @ev.eq_20
theorem q_ev_21 : type_of% @ev.eq_21 := opq @ev.eq_21
theorem q_ev_22 : type_of% @ev.eq_22 := opq @ev.eq_22
theorem q_ev_23 : type_of% @ev.eq_23 := opq @ev.eq_23
theorem q_ev_24 : type_of% @ev.eq_24 := opq @ev.eq_24
theorem q_ev_25 : type_of% @ev.eq_25 := opq @ev.eq_25
theorem q_ev_26 : type_of% @ev.eq_26 := opq @ev.eq_26
theorem q_ev_27 : type_of% @ev.eq_27 := opq @ev.eq_27
theorem q_ev_28 : type_of% @ev.eq_28 := opq @ev.eq_28
theorem q_ev_29 : type_of% @ev.eq_29 := opq @ev.eq_29
theorem q_evI_1 : type_of% @evI.eq_1 := opq @evI.eq_1
theorem q_evI_2 : type_of% @evI.eq_2 := opq @evI.eq_2
theorem q_evI_3 : type_of% @evI.eq_3 := opq @evI.eq_3
theorem q_evI_4 : type_of% @evI.eq_4 := opq @evI.eq_4
theorem q_evA_1 : type_of% @evA.eq_1 := opq @evA.eq_1
theorem q_evA_2 : type_of% @evA.eq_2 := opq @evA.eq_2
theorem q_evK_1 : type_of% @evK.eq_1 := opq @evK.eq_1
theorem q_evK_2 : type_of% @evK.eq_2 := opq @evK.eq_2
theorem q_evO_1 : type_of% @evO.eq_1 := opq @evO.eq_1
theorem q_evO_2 : type_of% @evO.eq_2 := opq @evO.eq_2
theorem q_evC_1 : type_of% @evC.eq_1 := opq @evC.eq_1
theorem q_evC_2 : type_of% @evC.eq_2 := opq @evC.eq_2
end Rf

set_option Elab.async false
set_option linter.all false
set_option maxRecDepth 100000
set_option maxHeartbeats 1000000
namespace Rf
open PySem

/-! ### the machine's equations without a match -/
def Res.bnd2 {α β γ : Type} (r : Res (α × β)) (f : α → β → Res γ) : Res γ := r.bnd fun p => f p.1 p.2
class Kont (α β : Type) where
  app : α → Res β
class Kont2 (α β γ : Type) where
  app : α → β → Res γ
def Res.bk {α β : Type} (r : Res α) [k : Kont α β] : Res β := r.bnd k.app
def Res.bk2 {α β γ : Type} (r : Res (α × β)) [k : Kont2 α β γ] : Res γ := r.bnd fun p => k.app p.1 p.2
theorem bk_ok {α β : Type} {a : α} {f : α → Res β} : @Res.bk α β (Res.ok a) ⟨f⟩ = f a := opq rfl
theorem bk_bad {α β : Type} {f : α → Res β} : @Res.bk α β Res.bad ⟨f⟩ = .bad := opq rfl
theorem bk2_ok {α β γ : Type} {a : α} {b : β} {f : α → β → Res γ} : @Res.bk2 α β γ (Res.ok (a, b)) ⟨f⟩ = f a b := opq rfl
def seqF (k : Env → Res Fl) : Fl → Res Fl
  | .nxt ρ => k ρ
  | f => .ok f
theorem seqF_nxt {k : Env → Res Fl} {ρ : Env} : seqF k (.nxt ρ) = k ρ := opq rfl
theorem seqF_ret {k : Env → Res Fl} {r : RV} {ρ : Env} : seqF k (.ret r ρ) = .ok (.ret r ρ) := opq rfl
theorem seqF_brk {k : Env → Res Fl} {ρ : Env} : seqF k (.brk ρ) = .ok (.brk ρ) := opq rfl
theorem seqF_cnt {k : Env → Res Fl} {ρ : Env} : seqF k (.cnt ρ) = .ok (.cnt ρ) := opq rfl
def varR (i : Nat) (ρ : Env) : Option SV → Res (RV × Env)
  | some (.v d) => .ok (.v d, ρ)
  | some (.m _) => .ok (.b i, ρ)
  | some (.p _) => .ok (.b i, ρ)
  | some (.f g x) => .ok (.f g x, ρ)
  | none => .bad
theorem varR_v {i : Nat} {ρ : Env} {d : PyData} : varR i ρ (some (.v d)) = .ok (.v d, ρ) := opq rfl
theorem varR_m {i : Nat} {ρ : Env} {o : MO} : varR i ρ (some (.m o)) = .ok (.b i, ρ) := opq rfl
theorem varR_f {i : Nat} {ρ : Env} {g : Nat} {x : Str} : varR i ρ (some (.f g x)) = .ok (.f g x, ρ) := opq rfl
theorem varR_p {i : Nat} {ρ : Env} {o : MO} : varR i ρ (some (.p o)) = .ok (.b i, ρ) := opq rfl
def callR (ρ : Env) (rs : List RV) : Res (RV × List MO) → Res (RV × Env)
  | .ok (r, os) => (ofO (backs ρ (refs rs) os)).bnd fun ρ2 => match r with
    | .b _ => .bad
    | r => .ok (r, ρ2)
  | .exc x _ => if refs rs = [] then .exc x ρ else .bad
  | .bad => .bad
theorem callR_v {ρ : Env} {rs : List RV} {d : PyData} {os : List MO} : callR ρ rs (.ok (.v d, os)) = (ofO (backs ρ (refs rs) os)).bk (k := ⟨fun ρ2 => .ok (.v d, ρ2)⟩) := opq rfl
theorem callR_m {ρ : Env} {rs : List RV} {o : MO} {os : List MO} : callR ρ rs (.ok (.m o, os)) = (ofO (backs ρ (refs rs) os)).bk (k := ⟨fun ρ2 => .ok (.m o, ρ2)⟩) := opq rfl
theorem callR_mt {ρ : Env} {rs : List RV} {o : MO} {d : PyData} {os : List MO} : callR ρ rs (.ok (.mt o d, os)) = (ofO (backs ρ (refs rs) os)).bk (k := ⟨fun ρ2 => .ok (.mt o d, ρ2)⟩) := opq rfl
theorem callR_k {ρ : Env} {rs : List RV} {r : RV} {d : PyData} {os : List MO} (h : keep r = some d) : callR ρ rs (.ok (r, os)) = (ofO (backs ρ (refs rs) os)).bk (k := ⟨fun ρ2 => .ok (r, ρ2)⟩) := by
  cases r with
  | b i => cases h
  | _ => rfl
def revR (ρ : Env) : PyData → Res (RV × Env)
  | .list xs => .ok (.m (.l xs.reverse), ρ)
  | .tuple xs => .ok (.v (.tuple xs.reverse), ρ)
  | _ => .bad
theorem revR_t {ρ : Env} {xs : List PyData} : revR ρ (.tuple xs) = .ok (.v (.tuple xs.reverse), ρ) := opq rfl
theorem revR_l {ρ : Env} {xs : List PyData} : revR ρ (.list xs) = .ok (.m (.l xs.reverse), ρ) := opq rfl
def ownS (i : Nat) (ρ : Env) : RV → Res Fl
  | .m o => .ok (.nxt (ρ.set i (some (.m o))))
  | _ => .bad
theorem ownS_m {i : Nat} {ρ : Env} {o : MO} : ownS i ρ (.m o) = .ok (.nxt (ρ.set i (some (.m o)))) := opq rfl
def mvR (ρ : Env) (i : Nat) : Option SV → Res Fl
  | some (.m o) => .ok (.ret (.m o) (ρ.set i none))
  | _ => .bad
theorem mvR_m {i : Nat} {ρ : Env} {o : MO} : mvR ρ i (some (.m o)) = .ok (.ret (.m o) (ρ.set i none)) := opq rfl
def retS (ρ : Env) : RV → Res Fl
  | .v d => .ok (.ret (.v d) ρ)
  | .m o => .ok (.ret (.m o) ρ)
  | .b i => mvR ρ i (slot ρ i)
  | _ => .bad
theorem retS_v {ρ : Env} {d : PyData} : retS ρ (.v d) = .ok (.ret (.v d) ρ) := opq rfl
theorem retS_m {ρ : Env} {o : MO} : retS ρ (.m o) = .ok (.ret (.m o) ρ) := opq rfl
theorem retS_b {ρ : Env} {i : Nat} : retS ρ (.b i) = mvR ρ i (slot ρ i) := opq rfl
def rttE (d : PyData) (i : Nat) (ρ1 : Env) : Option SV → Res Fl
  | some (.m o) => .ok (.ret (.v (.tuple [o.data, d])) (ρ1.set i none))
  | _ => .bad
theorem rttE_m {d : PyData} {i : Nat} {ρ1 : Env} {o : MO} : rttE d i ρ1 (some (.m o)) = .ok (.ret (.v (.tuple [o.data, d])) (ρ1.set i none)) := opq rfl
def rttS (F : Fn) (i : Nat) (e : E) (ρ : Env) : Option SV → Res Fl
  | some (.m _) => (ev F e ρ).bk2 (k := ⟨fun r ρ1 => (ofO (keep r)).bk (k := ⟨fun d => rttE d i ρ1 (slot ρ1 i)⟩)⟩)
  | _ => .bad
theorem rttS_m {F : Fn} {i : Nat} {e : E} {ρ : Env} {o : MO} : rttS F i e ρ (some (.m o)) = (ev F e ρ).bk2 (k := ⟨fun r ρ1 => (ofO (keep r)).bk (k := ⟨fun d => rttE d i ρ1 (slot ρ1 i)⟩)⟩) := opq rfl
section
variable {F : Fn} {ρ : Env}
theorem m_var {i : Nat} : ev F (.var i) ρ = varR i ρ (slot ρ i) := by
  rw [ev.eq_1]
  generalize slot ρ i = s
  rcases s with _ | (_ | _ | _ | _) <;> rfl
theorem m_tup {es : Es} : ev F (.tup es) ρ = (evK F es ρ).bk2 (k := ⟨fun ds ρ1 => if ds.length ≤ lim then .ok (.v (.tuple ds), ρ1) else .bad⟩) := by rw [ev.eq_7]; rfl
theorem m_lst {es : Es} : ev F (.lst es) ρ = (evK F es ρ).bk2 (k := ⟨fun ds ρ1 => if ds.length ≤ lim then .ok (.m (.l ds), ρ1) else .bad⟩) := by rw [ev.eq_8]; rfl
theorem m_dic1 {k : Str} {e : E} : ev F (.dic1 k e) ρ = (ev F e ρ).bk2 (k := ⟨fun r ρ1 => (ofO (keep r)).bk (k := ⟨fun d => .ok (.m (.d [(.inr k, d)]), ρ1)⟩)⟩) := by rw [ev.eq_10]; rfl
theorem m_bin {op : Bo} {a b : E} : ev F (.bin op a b) ρ = (ev F a ρ).bk2 (k := ⟨fun x ρ1 => (ev F b ρ1).bk2 (k := ⟨fun y ρ2 => (ofO (look ρ2 x)).bk (k := ⟨fun x => (ofO (look ρ2 y)).bk (k := ⟨fun y => (ofO (binD op x y)).bk (k := ⟨fun r => .ok (r, ρ2)⟩)⟩)⟩)⟩)⟩) := by rw [ev.eq_11]; rfl
theorem m_neg {a : E} : ev F (.neg a) ρ = (ev F a ρ).bk2 (k := ⟨fun x ρ1 => (ofO (keep x)).bk (k := ⟨fun x => (ofO (asInt x)).bk (k := ⟨fun i => .ok (.v (.int (-i)), ρ1)⟩)⟩)⟩) := by rw [ev.eq_12]; rfl
theorem m_not {a : E} : ev F (.not a) ρ = (ev F a ρ).bk2 (k := ⟨fun x ρ1 => (ofO (isB x)).bk (k := ⟨fun b => .ok (.v (.bool (!b)), ρ1)⟩)⟩) := by rw [ev.eq_13]; rfl
theorem m_and {a b : E} : ev F (.and a b) ρ = (ev F a ρ).bk2 (k := ⟨fun x ρ1 => (ofO (isB x)).bk (k := ⟨fun k => if k = true then (ev F b ρ1).bk2 (k := ⟨fun y ρ2 => (ofO (isB y)).bk (k := ⟨fun k2 => .ok (.v (.bool k2), ρ2)⟩)⟩) else .ok (.v (.bool false), ρ1)⟩)⟩) := by rw [ev.eq_14]; rfl
theorem m_or {a b : E} : ev F (.or a b) ρ = (ev F a ρ).bk2 (k := ⟨fun x ρ1 => (ofO (isB x)).bk (k := ⟨fun k => if k = true then .ok (.v (.bool true), ρ1) else (ev F b ρ1).bk2 (k := ⟨fun y ρ2 => (ofO (isB y)).bk (k := ⟨fun k2 => .ok (.v (.bool k2), ρ2)⟩)⟩)⟩)⟩) := by rw [ev.eq_15]; rfl
theorem m_ife {c a b : E} : ev F (.ife c a b) ρ = (ev F c ρ).bk2 (k := ⟨fun x ρ1 => (ofO (isB x)).bk (k := ⟨fun k => if k = true then ev F a ρ1 else ev F b ρ1⟩)⟩) := by rw [ev.eq_16]; rfl
theorem m_cmp {op : Co} {a b : E} : ev F (.cmp op a b) ρ = (ev F a ρ).bk2 (k := ⟨fun x ρ1 => (ev F b ρ1).bk2 (k := ⟨fun y ρ2 => (ofO (look ρ2 x)).bk (k := ⟨fun x => (ofO (look ρ2 y)).bk (k := ⟨fun y => (ofO (cmpD op x y)).bk (k := ⟨fun k => .ok (.v (.bool k), ρ2)⟩)⟩)⟩)⟩)⟩) := by rw [ev.eq_17]; rfl
theorem m_chn {op op2 : Co} {a b c : E} : ev F (.chn op op2 a b c) ρ = (ev F a ρ).bk2 (k := ⟨fun x ρ1 => (ev F b ρ1).bk2 (k := ⟨fun y ρ2 => (ofO (keep x)).bk (k := ⟨fun x => (ofO (keep y)).bk (k := ⟨fun y => (ofO (cmpD op x y)).bk (k := ⟨fun k =>
      if k = true then (ev F c ρ2).bk2 (k := ⟨fun z ρ3 => (ofO (keep z)).bk (k := ⟨fun z => (ofO (cmpD op2 y z)).bk (k := ⟨fun k2 => .ok (.v (.bool k2), ρ3)⟩)⟩)⟩) else .ok (.v (.bool false), ρ2)⟩)⟩)⟩)⟩)⟩) := by rw [ev.eq_18]; rfl
theorem m_isn {a : E} : ev F (.isn a) ρ = (ev F a ρ).bk2 (k := ⟨fun x ρ1 => (ofO (keep x)).bk (k := ⟨fun x => .ok (.v (.bool (isNonD x)), ρ1)⟩)⟩) := by rw [ev.eq_19]; rfl
theorem m_nis {a : E} : ev F (.nis a) ρ = (ev F a ρ).bk2 (k := ⟨fun x ρ1 => (ofO (keep x)).bk (k := ⟨fun x => .ok (.v (.bool (!isNonD x)), ρ1)⟩)⟩) := by rw [ev.eq_20]; rfl
theorem m_idx {a b : E} : ev F (.idx a b) ρ = (ev F a ρ).bk2 (k := ⟨fun x ρ1 => (ev F b ρ1).bk2 (k := ⟨fun y ρ2 => (ofO (look ρ2 x)).bk (k := ⟨fun x => (ofO (keep y)).bk (k := ⟨fun y => (ofO (idxD x y)).bk (k := ⟨fun d => .ok (.v d, ρ2)⟩)⟩)⟩)⟩)⟩) := by rw [ev.eq_21]; rfl
theorem m_slc {a : E} {lo hi : Oe} : ev F (.slc a lo hi) ρ = (ev F a ρ).bk2 (k := ⟨fun x ρ1 => (evO F lo ρ1).bk2 (k := ⟨fun l ρ2 => (evO F hi ρ2).bk2 (k := ⟨fun u ρ3 => (ofO (look ρ3 x)).bk (k := ⟨fun x => (ofO (slcD x l u)).bk (k := ⟨fun r => .ok (r, ρ3)⟩)⟩)⟩)⟩)⟩) := by rw [ev.eq_22]; rfl
theorem m_rev {a : E} : ev F (.rev a) ρ = (ev F a ρ).bk2 (k := ⟨fun x ρ1 => (ofO (look ρ1 x)).bk (k := ⟨fun x => revR ρ1 x⟩)⟩) := by rw [ev.eq_23]; rfl
theorem m_call {f : Nat} {x : Str} {es : Es} : ev F (.call f x es) ρ = (evA F es ρ).bk2 (k := ⟨fun rs ρ1 => if (refs rs).Nodup then (ofO (argsIn ρ1 rs)).bk (k := ⟨fun ss => callR ρ1 rs (F f ss)⟩) else .bad⟩) := by rw [ev.eq_24]; rfl
theorem m_prm {p : Pm} {es : Es} : ev F (.prm p es) ρ = (evA F es ρ).bk2 (k := ⟨fun rs ρ1 => (ofO (rs.mapM (look ρ1))).bk (k := ⟨fun ds => (ofO (primD p ds)).bk (k := ⟨fun r => .ok (r, ρ1)⟩)⟩)⟩) := by rw [ev.eq_25]; rfl
theorem m_isi {a : E} {t : Ty} : ev F (.isi a t) ρ = (ev F a ρ).bk2 (k := ⟨fun x ρ1 => (ofO (look ρ1 x)).bk (k := ⟨fun x => .ok (.v (.bool (isiD t x)), ρ1)⟩)⟩) := by rw [ev.eq_26]; rfl
theorem m_met {m : Mt} {i : Nat} {es : Es} : ev F (.met m i es) ρ = (ofO (own ρ i)).bk (k := ⟨fun o0 => if metK m o0 = true then (evK F es ρ).bk2 (k := ⟨fun ds ρ1 => (ofO (own ρ1 i)).bk (k := ⟨fun o => (ofO (metD m o ds)).bk2 (k := ⟨fun d o2 => .ok (.v d, chg ρ1 i o2)⟩)⟩)⟩) else .bad⟩) := by rw [ev.eq_27]; rfl
theorem m_comp {ow : List Nat} {elt : E} {tg : Tg} {it : It} {c : Oe} : ev F (.comp ow elt tg it c) ρ = (evI F it ρ).bk2 (k := ⟨fun xs ρ1 => if noMo ρ1 ow = true then (compR ow (bindTg tg) (evC F c) (ev F elt) xs (wipeE ρ1 ow) []).bk2 (k := ⟨fun ds ρ2 => .ok (.m (.l ds), unwipe ρ1 ρ2 ow)⟩) else .bad⟩) := by rw [ev.eq_28]; rfl
def inQ (F : Fn) (ow1 : List Nat) (elt : E) (tg1 : Tg) (it1 : It) (c1 : Oe) (ρ3 : Env) (acc : List PyData) : Res (List PyData × Env) := (evI F it1 ρ3).bk2 (k := ⟨fun ys ρ4 => if noMo ρ4 ow1 = true then compR ow1 (bindTg tg1) (evC F c1) (ev F elt) ys (wipeE ρ4 ow1) acc else .bad⟩)
theorem inQ_eq {ow1 : List Nat} {elt : E} {tg1 : Tg} {it1 : It} {c1 : Oe} {ρ3 : Env} {acc : List PyData} : inQ F ow1 elt tg1 it1 c1 ρ3 acc = (evI F it1 ρ3).bk2 (k := ⟨fun ys ρ4 => if noMo ρ4 ow1 = true then compR ow1 (bindTg tg1) (evC F c1) (ev F elt) ys (wipeE ρ4 ow1) acc else .bad⟩) := opq rfl
theorem m_comp2 {ow ow1 : List Nat} {elt : E} {tg tg1 : Tg} {it it1 : It} {c c1 : Oe} : ev F (.comp2 ow ow1 elt tg it c tg1 it1 c1) ρ = (evI F it ρ).bk2 (k := ⟨fun xs ρ1 => if noMo ρ1 ow = true then (compQ ow (bindTg tg) (evC F c) (inQ F ow1 elt tg1 it1 c1) xs (wipeE ρ1 ow) []).bk2 (k := ⟨fun ds ρ2 => .ok (.m (.l ds), unwipe ρ1 ρ2 ow)⟩) else .bad⟩) := by rw [ev.eq_30]; rfl
theorem m_lrg1 {a : E} : ev F (.lrg1 a) ρ = (ev F a ρ).bk2 (k := ⟨fun r ρ1 => (ofO (keep r)).bk (k := ⟨fun d => (ofO (asInt d)).bk (k := ⟨fun j => if (decide (0 ≤ j) && decide (j ≤ 16777216)) = true then .ok (.m (.l (rngL 0 j.toNat)), ρ1) else .bad⟩)⟩)⟩) := by rw [ev.eq_31]; rfl
theorem m_lrg2 {a b : E} : ev F (.lrg2 a b) ρ = (ev F a ρ).bk2 (k := ⟨fun r ρ1 => (ev F b ρ1).bk2 (k := ⟨fun q ρ2 => (ofO (keep r)).bk (k := ⟨fun d => (ofO (asInt d)).bk (k := ⟨fun i => (ofO (keep q)).bk (k := ⟨fun d => (ofO (asInt d)).bk (k := ⟨fun j =>
      if ((decide (0 ≤ i) && decide (i ≤ 16777216)) && (decide (0 ≤ j) && decide (j ≤ 16777216))) = true then .ok (.m (.l (rngL i (j - i).toNat)), ρ2) else .bad⟩)⟩)⟩)⟩)⟩)⟩) := by rw [ev.eq_32]; rfl
theorem m_rpl {a b : E} : ev F (.rpl a b) ρ = (ev F a ρ).bk2 (k := ⟨fun x ρ1 => (ev F b ρ1).bk2 (k := ⟨fun y ρ2 => (ofO (newLD x)).bk (k := ⟨fun xs => (ofO (keep y)).bk (k := ⟨fun d => (ofO (asInt d)).bk (k := ⟨fun k =>
      if (decide (xs.length ≤ 1000) && (decide (0 ≤ k) && decide (k ≤ 1000))) = true then .ok (.m (.l (List.replicate k.toNat xs).flatten), ρ2) else .bad⟩)⟩)⟩)⟩)⟩) := by rw [ev.eq_33]; rfl
theorem newLD_m {xs : List PyData} : newLD (.m (.l xs)) = some xs := opq rfl
def cdR (F : Fn) (ρ : Env) (ow : List Nat) (elt : E) (tg : Tg) (i : Nat) (c : Oe) : MO → Res (RV × Env)
  | .d ks => if (noMo ρ ow && decide (i ∉ ow)) = true then (compR ow (bindTg tg) (evC F c) (ev F elt) (ks.map fun p => kD p.1) (wipeE (ρ.set i none) ow) []).bnd2 fun ds ρ2 => .ok (.m (.l ds), (unwipe ρ ρ2 ow).set i (slot ρ i)) else .bad
  | .l _ => .bad
theorem cdR_d {ow : List Nat} {elt : E} {tg : Tg} {i : Nat} {c : Oe} {ks : List (L2.Key × PyData)} : cdR F ρ ow elt tg i c (.d ks) = if (noMo ρ ow && decide (i ∉ ow)) = true then (compR ow (bindTg tg) (evC F c) (ev F elt) (ks.map fun p => kD p.1) (wipeE (ρ.set i none) ow) []).bk2 (k := ⟨fun ds ρ2 => .ok (.m (.l ds), (unwipe ρ ρ2 ow).set i (slot ρ i))⟩) else .bad := opq rfl
theorem m_compD {ow : List Nat} {elt : E} {tg : Tg} {i : Nat} {c : Oe} : ev F (.compD ow elt tg i c) ρ = (ofO (own ρ i)).bk (k := ⟨fun o => cdR F ρ ow elt tg i c o⟩) := by
  rw [ev.eq_29]
  generalize ofO (own ρ i) = r
  rcases r with (_ | _) | _ | _ <;> rfl
theorem m_k0 : evK F .nil ρ = .ok ([], ρ) := by rw [evK.eq_1]
theorem m_k1 {e : E} {es : Es} : evK F (.cons e es) ρ = (ev F e ρ).bk2 (k := ⟨fun r ρ1 => (ofO (keep r)).bk (k := ⟨fun d => (evK F es ρ1).bk2 (k := ⟨fun ds ρ2 => .ok (d :: ds, ρ2)⟩)⟩)⟩) := by rw [evK.eq_2]; rfl
theorem m_a0 : evA F .nil ρ = .ok ([], ρ) := by rw [evA.eq_1]
theorem m_a1 {e : E} {es : Es} : evA F (.cons e es) ρ = (ev F e ρ).bk2 (k := ⟨fun r ρ1 => (evA F es ρ1).bk2 (k := ⟨fun rs ρ2 => .ok (r :: rs, ρ2)⟩)⟩) := by rw [evA.eq_2]; rfl
theorem m_o0 : evO F .none ρ = .ok (none, ρ) := by rw [evO.eq_1]
theorem m_o1 {e : E} : evO F (.some e) ρ = (ev F e ρ).bk2 (k := ⟨fun r ρ1 => (ofO (keep r)).bk (k := ⟨fun d => (ofO (asInt d)).bk (k := ⟨fun i => .ok (some i, ρ1)⟩)⟩)⟩) := by rw [evO.eq_2]; rfl
theorem m_c0 : evC F .none ρ = .ok (true, ρ) := by rw [evC.eq_1]
theorem m_c1 {e : E} : evC F (.some e) ρ = (ev F e ρ).bk2 (k := ⟨fun r ρ1 => (ofO (isB r)).bk (k := ⟨fun b => .ok (b, ρ1)⟩)⟩) := by rw [evC.eq_2]; rfl
theorem m_ie {a : E} : evI F (.e a) ρ = (ev F a ρ).bk2 (k := ⟨fun r ρ1 => (ofO (keep r)).bk (k := ⟨fun d => (ofO (seqOf d)).bk (k := ⟨fun xs => .ok (xs, ρ1)⟩)⟩)⟩) := by rw [evI.eq_1]; rfl
theorem m_r1 {a : E} : evI F (.r1 a) ρ = (ev F a ρ).bk2 (k := ⟨fun r ρ1 => (ofO (keep r)).bk (k := ⟨fun d => (ofO (asInt d)).bk (k := ⟨fun j => if smallI j = true then .ok (rngL 0 j.toNat, ρ1) else .bad⟩)⟩)⟩) := by rw [evI.eq_2]; rfl
theorem m_r2 {a b : E} : evI F (.r2 a b) ρ = (ev F a ρ).bk2 (k := ⟨fun r ρ1 => (ev F b ρ1).bk2 (k := ⟨fun q ρ2 => (ofO (keep r)).bk (k := ⟨fun d => (ofO (asInt d)).bk (k := ⟨fun i => (ofO (keep q)).bk (k := ⟨fun d => (ofO (asInt d)).bk (k := ⟨fun j => if (smallI i && smallI j) = true then .ok (rngL i (j - i).toNat, ρ2) else .bad⟩)⟩)⟩)⟩)⟩)⟩) := by rw [evI.eq_3]; rfl
theorem m_r3 {a b c : E} : evI F (.r3 a b c) ρ = (ev F a ρ).bk2 (k := ⟨fun r ρ1 => (ev F b ρ1).bk2 (k := ⟨fun q ρ2 => (ev F c ρ2).bk2 (k := ⟨fun z ρ3 => (ofO (keep r)).bk (k := ⟨fun d => (ofO (asInt d)).bk (k := ⟨fun i => (ofO (keep q)).bk (k := ⟨fun d => (ofO (asInt d)).bk (k := ⟨fun j => (ofO (keep z)).bk (k := ⟨fun d => (ofO (asInt d)).bk (k := ⟨fun c => if rng3B i j c = true then .ok (rngC i c (rng3N i j c), ρ3) else .bad⟩)⟩)⟩)⟩)⟩)⟩)⟩)⟩)⟩) := by rw [evI.eq_4]; rfl
theorem m_set {i : Nat} {e : E} : evS F (.set i e) ρ = (ev F e ρ).bk2 (k := ⟨fun r ρ1 => (ofO (keep r)).bk (k := ⟨fun d => .ok (.nxt (ρ1.set i (some (.v d))))⟩)⟩) := by rw [evS.eq_1]; rfl
theorem m_own {i : Nat} {e : E} : evS F (.own i e) ρ = (ev F e ρ).bk2 (k := ⟨fun r ρ1 => ownS i ρ1 r⟩) := by
  rw [evS.eq_2]
  generalize ev F e ρ = r
  rcases r with ⟨(_ | _ | _ | _ | _), _⟩ | _ | _ <;> rfl
theorem m_par {i j : Nat} {a b : E} : evS F (.par i j a b) ρ = (ev F a ρ).bk2 (k := ⟨fun x ρ1 => (ev F b ρ1).bk2 (k := ⟨fun y ρ2 => (ofO (keep x)).bk (k := ⟨fun x => (ofO (keep y)).bk (k := ⟨fun y => .ok (.nxt ((ρ2.set i (some (.v x))).set j (some (.v y))))⟩)⟩)⟩)⟩) := by rw [evS.eq_3]; rfl
theorem m_tpl {is : List Nat} {e : E} : evS F (.tpl is e) ρ = (ev F e ρ).bk2 (k := ⟨fun r ρ1 => (ofO (keep r)).bk (k := ⟨fun d => (ofO (bindTg (.t is) d ρ1)).bk (k := ⟨fun ρ2 => .ok (.nxt ρ2)⟩)⟩)⟩) := by rw [evS.eq_4]; rfl
theorem m_sit {i : Nat} {a e : E} : evS F (.sit i a e) ρ = (ev F e ρ).bk2 (k := ⟨fun r ρ1 => (ofO (keep r)).bk (k := ⟨fun d => (ofO (own ρ1 i)).bk (k := ⟨fun _ => (ev F a ρ1).bk2 (k := ⟨fun q ρ2 => (ofO (keep q)).bk (k := ⟨fun k => (ofO (own ρ2 i)).bk (k := ⟨fun o => (ofO (setD o k d)).bk (k := ⟨fun o2 => .ok (.nxt (chg ρ2 i o2))⟩)⟩)⟩)⟩)⟩)⟩)⟩) := by rw [evS.eq_5]; rfl
theorem m_swp {i : Nat} {a b c d : E} : evS F (.swp i a b c d) ρ = (ev F (.idx (.var i) c) ρ).bk2 (k := ⟨fun x ρ1 => (ofO (keep x)).bk (k := ⟨fun x => (ev F (.idx (.var i) d) ρ1).bk2 (k := ⟨fun y ρ2 => (ofO (keep y)).bk (k := ⟨fun y =>
      (ofO (own ρ2 i)).bk (k := ⟨fun _ => (ev F a ρ2).bk2 (k := ⟨fun q ρ3 => (ofO (keep q)).bk (k := ⟨fun k => (ofO (own ρ3 i)).bk (k := ⟨fun o => (ofO (setD o k x)).bk (k := ⟨fun o2 =>
      (ev F b (chg ρ3 i o2)).bk2 (k := ⟨fun q ρ4 => (ofO (keep q)).bk (k := ⟨fun k => (ofO (own ρ4 i)).bk (k := ⟨fun o => (ofO (setD o k y)).bk (k := ⟨fun o2 => .ok (.nxt (chg ρ4 i o2))⟩)⟩)⟩)⟩)⟩)⟩)⟩)⟩)⟩)⟩)⟩)⟩)⟩) := by rw [evS.eq_6]; rfl
def augS (F : Fn) (ρ : Env) (op : Bo) (i : Nat) (e : E) : SV → Res Fl
  | .v x => (ev F e ρ).bnd2 fun r ρ1 => (ofO (keep r)).bnd fun y => (ofO (augD op x y)).bnd fun z => .ok (.nxt (ρ1.set i (some (.v z))))
  | _ => .bad
theorem augS_v {op : Bo} {i : Nat} {e : E} {x : PyData} : augS F ρ op i e (.v x) = (ev F e ρ).bk2 (k := ⟨fun r ρ1 => (ofO (keep r)).bk (k := ⟨fun y => (ofO (augD op x y)).bk (k := ⟨fun z => .ok (.nxt (ρ1.set i (some (.v z))))⟩)⟩)⟩) := opq rfl
theorem m_aug {op : Bo} {i : Nat} {e : E} : evS F (.aug op i e) ρ = (ofO (slot ρ i)).bk (k := ⟨fun s => augS F ρ op i e s⟩) := by
  rw [evS.eq_7]
  generalize slot ρ i = s
  rcases s with _ | (_ | _ | _ | _) <;> rfl
theorem m_exp {e : E} : evS F (.exp e) ρ = (ev F e ρ).bk2 (k := ⟨fun _ ρ1 => .ok (.nxt ρ1)⟩) := by rw [evS.eq_8]; rfl
theorem m_iff {c : E} {a b : Ss} : evS F (.iff c a b) ρ = (ev F c ρ).bk2 (k := ⟨fun r ρ1 => (ofO (isB r)).bk (k := ⟨fun k => if k = true then evSs F a ρ1 else evSs F b ρ1⟩)⟩) := by rw [evS.eq_9]; rfl
theorem m_for {tg : Tg} {it : It} {b : Ss} : evS F (.for tg it b) ρ = (evI F it ρ).bk2 (k := ⟨fun xs ρ1 => forR (bindTg tg) (evSs F b) xs ρ1⟩) := by rw [evS.eq_10]; rfl
theorem m_whl {c : E} {b : Ss} : evS F (.whl c b) ρ = whileR (ev F c) (evSs F b) fuel ρ := by rw [evS.eq_11]
theorem m_ret {e : E} : evS F (.ret e) ρ = (ev F e ρ).bk2 (k := ⟨fun r ρ1 => retS ρ1 r⟩) := by
  rw [evS.eq_12]
  generalize ev F e ρ = r
  rcases r with ⟨(_ | _ | i | _ | _), ρ1⟩ | _ | _
  · rfl
  · rfl
  · show (match slot ρ1 i with
      | some (.m o) => Res.ok (Fl.ret (.m o) (ρ1.set i none))
      | _ => .bad) = mvR ρ1 i (slot ρ1 i)
    generalize slot ρ1 i = s
    rcases s with _ | (_ | _ | _ | _) <;> rfl
  · rfl
  · rfl
  · rfl
  · rfl
theorem m_retN : evS F .retN ρ = .ok (.ret (.v .none) ρ) := by rw [evS.eq_13]
theorem m_brk : evS F .brk ρ = .ok (.brk ρ) := by rw [evS.eq_14]
theorem m_cnt : evS F .cnt ρ = .ok (.cnt ρ) := by rw [evS.eq_15]
theorem m_pss : evS F .pss ρ = .ok (.nxt ρ) := by rw [evS.eq_16]
theorem m_rtt {i : Nat} {e : E} : evS F (.rtt i e) ρ = rttS F i e ρ (slot ρ i) := by
  rw [evS.eq_17]
  generalize slot ρ i = s
  rcases s with _ | (_ | _ | _ | _)
  · rfl
  · rfl
  · show ((ev F e ρ).bnd fun (r, ρ1) => (ofO (keep r)).bnd fun d => match slot ρ1 i with
      | some (.m o) => Res.ok (Fl.ret (.v (.tuple [o.data, d])) (ρ1.set i none))
      | _ => .bad) = (ev F e ρ).bnd fun p => (ofO (keep p.1)).bnd fun d => rttE d i p.2 (slot p.2 i)
    congr 1
  · rfl
  · rfl
def rtmE (d : PyData) (i : Nat) (ρ1 : Env) : Option SV → Res Fl
  | some (.m o) => .ok (.ret (.mt o d) (ρ1.set i none))
  | _ => .bad
theorem rtmE_m {d : PyData} {i : Nat} {ρ1 : Env} {o : MO} : rtmE d i ρ1 (some (.m o)) = .ok (.ret (.mt o d) (ρ1.set i none)) := opq rfl
def rtmS (F : Fn) (i : Nat) (e : E) (ρ : Env) : Option SV → Res Fl
  | some (.m _) => (ev F e ρ).bk2 (k := ⟨fun r ρ1 => (ofO (keep r)).bk (k := ⟨fun d => rtmE d i ρ1 (slot ρ1 i)⟩)⟩)
  | _ => .bad
theorem rtmS_m {i : Nat} {e : E} {o : MO} : rtmS F i e ρ (some (.m o)) = (ev F e ρ).bk2 (k := ⟨fun r ρ1 => (ofO (keep r)).bk (k := ⟨fun d => rtmE d i ρ1 (slot ρ1 i)⟩)⟩) := opq rfl
theorem m_rtm {i : Nat} {e : E} : evS F (.rtm i e) ρ = rtmS F i e ρ (slot ρ i) := by
  rw [evS.eq_18]
  generalize slot ρ i = s
  rcases s with _ | (_ | _ | _ | _)
  · rfl
  · rfl
  · show ((ev F e ρ).bnd fun (r, ρ1) => (ofO (keep r)).bnd fun d => match slot ρ1 i with
      | some (.m o) => Res.ok (Fl.ret (.mt o d) (ρ1.set i none))
      | _ => .bad) = (ev F e ρ).bnd fun p => (ofO (keep p.1)).bnd fun d => rtmE d i p.2 (slot p.2 i)
    congr 1
  · rfl
  · rfl
def tpoS (i j : Nat) (ρ1 : Env) : RV → Res Fl
  | .mt o d => if i = j then .bad else .ok (.nxt ((ρ1.set i (some (.m o))).set j (some (.v d))))
  | _ => .bad
theorem tpoS_mt {i j : Nat} {ρ1 : Env} {o : MO} {d : PyData} : tpoS i j ρ1 (.mt o d) = if i = j then .bad else .ok (.nxt ((ρ1.set i (some (.m o))).set j (some (.v d)))) := opq rfl
theorem m_tpo {i j : Nat} {e : E} : evS F (.tpo i j e) ρ = (ev F e ρ).bk2 (k := ⟨fun r ρ1 => tpoS i j ρ1 r⟩) := by
  rw [evS.eq_19]
  generalize ev F e ρ = r
  rcases r with ⟨(_ | _ | _ | _ | _), _⟩ | _ | _ <;> rfl
theorem m_fn {g : Nat} {x : Str} : ev F (.fn g x) ρ = .ok (.f g x, ρ) := by rw [ev.eq_34]
def calS (F : Fn) (fs : List (Nat × Str)) (es : Es) (ρ : Env) : Option SV → Res (RV × Env)
  | some (.f g x) => if (g, x) ∈ fs then (evA F es ρ).bk2 (k := ⟨fun rs ρ1 => if (refs rs).Nodup then (ofO (argsIn ρ1 rs)).bk (k := ⟨fun ss => callR ρ1 rs (F g ss)⟩) else .bad⟩) else .bad
  | _ => .bad
theorem calS_f {fs : List (Nat × Str)} {es : Es} {g : Nat} {x : Str} : calS F fs es ρ (some (.f g x)) = if (g, x) ∈ fs then (evA F es ρ).bk2 (k := ⟨fun rs ρ1 => if (refs rs).Nodup then (ofO (argsIn ρ1 rs)).bk (k := ⟨fun ss => callR ρ1 rs (F g ss)⟩) else .bad⟩) else .bad := opq rfl
theorem m_cal {i : Nat} {fs : List (Nat × Str)} {es : Es} : ev F (.cal i fs es) ρ = calS F fs es ρ (slot ρ i) := by
  rw [ev.eq_35]
  generalize slot ρ i = s
  rcases s with _ | (_ | _ | _ | _) <;> rfl
theorem argIn_f {g : Nat} {x : Str} : argIn ρ (.f g x) = some (.f g x) := opq rfl
theorem refs_f {g : Nat} {x : Str} {rs : List RV} : refs (.f g x :: rs) = refs rs := opq rfl
theorem outs_f {g : Nat} {x : Str} {ss : List SV} {y : Option SV} : outs (.f g x :: ss) (y :: ρ) = outs ss ρ := opq rfl
theorem mo_f {g : Nat} {x : Str} : SV.mo (.f g x) = none := opq rfl
theorem mem_one {α : Type} {a : α} : (a ∈ [a]) = True := by simp
theorem m_pr3 {i j l : Nat} {a b c : E} : evS F (.pr3 i j l a b c) ρ = (ev F a ρ).bk2 (k := ⟨fun x ρ1 => (ev F b ρ1).bk2 (k := ⟨fun y ρ2 => (ev F c ρ2).bk2 (k := ⟨fun z ρ3 => (ofO (keep x)).bk (k := ⟨fun x => (ofO (keep y)).bk (k := ⟨fun y => (ofO (keep z)).bk (k := ⟨fun z => .ok (.nxt (((ρ3.set i (some (.v x))).set j (some (.v y))).set l (some (.v z))))⟩)⟩)⟩)⟩)⟩)⟩) := by rw [evS.eq_20]; rfl
theorem m_ss0 : evSs F .nil ρ = .ok (.nxt ρ) := by rw [evSs.eq_1]
theorem m_ss1 {s : S} {ss : Ss} : evSs F (.cons s ss) ρ = (evS F s ρ).bk (k := ⟨fun f => seqF (evSs F ss) f⟩) := by
  rw [evSs.eq_2]
  generalize evS F s ρ = r
  rcases r with (_ | _ | _ | _) | _ | _ <;> rfl
def finR (ss : List SV) : Fl → Res (RV × List MO)
  | .ret r ρ => (ofO (outs ss ρ)).bnd fun os => .ok (r, os)
  | .nxt ρ => (ofO (outs ss ρ)).bnd fun os => .ok (.v .none, os)
  | _ => .bad
theorem finR_ret {ss : List SV} {r : RV} : finR ss (.ret r ρ) = (ofO (outs ss ρ)).bk (k := ⟨fun os => .ok (r, os)⟩) := opq rfl
theorem finR_nxt {ss : List SV} : finR ss (.nxt ρ) = (ofO (outs ss ρ)).bk (k := ⟨fun os => .ok (.v .none, os)⟩) := opq rfl
def finX (ss : List SV) : Res Fl → Res (RV × List MO)
  | .ok f => finR ss f
  | .exc x _ => .exc x []
  | .bad => .bad
theorem finX_ok {ss : List SV} {f : Fl} : finX ss (.ok f) = finR ss f := opq rfl
theorem m_run {np ns : Nat} {b : Ss} {ss : List SV} : runD F ⟨np, ns, b⟩ ss = if ss.length = np then finX ss (evSs F b (ss.map some ++ List.replicate (ns - np) none)) else .bad := by
  unfold runD
  by_cases h : ss.length = np
  · rw [if_pos h, if_pos h]
    show _ = finX ss (evSs F b (ss.map some ++ List.replicate (ns - np) none))
    generalize evSs F b (ss.map some ++ List.replicate (ns - np) none) = r
    rcases r with (_ | _ | _ | _) | _ | _ <;> rfl
  · rw [if_neg h, if_neg h]
/-- a def's run that no exception leaves -/
theorem runD_of {np ns : Nat} {b : Ss} {ss : List SV} {f : Fl} (hl : ss.length = np) (h : evSs F b (ss.map some ++ List.replicate (ns - np) none) = .ok f) : runD F ⟨np, ns, b⟩ ss = finR ss f := by
  unfold runD
  rw [if_pos hl, h]
  cases f <;> rfl
end
theorem lim_0 : 0 ≤ lim := opq (by decide)
theorem lim_1 : 1 ≤ lim := opq (by decide)
theorem lim_2 : 2 ≤ lim := opq (by decide)
theorem lim_3 : 3 ≤ lim := opq (by decide)
theorem lim_4 : 4 ≤ lim := opq (by decide)
theorem lim_5 : 5 ≤ lim := opq (by decide)
theorem lim_6 : 6 ≤ lim := opq (by decide)
theorem lim_7 : 7 ≤ lim := opq (by decide)
theorem lim_8 : 8 ≤ lim := opq (by decide)
theorem lim_9 : 9 ≤ lim := opq (by decide)
theorem lim_10 : 10 ≤ lim := opq (by decide)
theorem lim_11 : 11 ≤ lim := opq (by decide)
theorem lim_12 : 12 ≤ lim := opq (by decide)
theorem lim_13 : 13 ≤ lim := opq (by decide)
theorem lim_14 : 14 ≤ lim := opq (by decide)
theorem lim_15 : 15 ≤ lim := opq (by decide)
theorem lim_16 : 16 ≤ lim := opq (by decide)
theorem lim_17 : 17 ≤ lim := opq (by decide)
theorem lim_18 : 18 ≤ lim := opq (by decide)
theorem lim_19 : 19 ≤ lim := opq (by decide)
theorem lim_20 : 20 ≤ lim := opq (by decide)
theorem lim_21 : 21 ≤ lim := opq (by decide)
theorem lim_22 : 22 ≤ lim := opq (by decide)
theorem lim_23 : 23 ≤ lim := opq (by decide)
theorem lim_24 : 24 ≤ lim := opq (by decide)
theorem lim_25 : 25 ≤ lim := opq (by decide)
theorem lim_26 : 26 ≤ lim := opq (by decide)
theorem lim_27 : 27 ≤ lim := opq (by decide)
theorem lim_28 : 28 ≤ lim := opq (by decide)
theorem lim_29 : 29 ≤ lim := opq (by decide)
theorem lim_30 : 30 ≤ lim := opq (by decide)
theorem lim_31 : 31 ≤ lim := opq (by decide)
theorem lim_32 : 32 ≤ lim := opq (by decide)
theorem small_nat {k : Nat} (h : k ≤ 1000000000) : smallI (k : Int) = true := by
  unfold smallI
  rw [decide_eq_true (by omega), decide_eq_true (by omega)]; rfl
theorem rngL_len {lo : Int} {n : Nat} : (rngL lo n).length = n := by simp [rngL]
theorem rngL_get {lo : Int} {n i : Nat} {x : PyData} (h : (rngL lo n)[i]? = some x) : i < n ∧ x = .int (lo + (i : Nat)) := by
  simp only [rngL, List.getElem?_map, Option.map_eq_some_iff] at h
  obtain ⟨j, h1, h2⟩ := h
  obtain ⟨h3, h4⟩ := List.getElem?_eq_some_iff.mp h1
  rw [List.length_range] at h3
  rw [List.getElem_range] at h4
  subst h4
  exact ⟨h3, h2.symm⟩
theorem rngL_mem {lo : Int} {n : Nat} {x : PyData} (h : x ∈ rngL lo n) : ∃ i : Nat, i < n ∧ x = .int (lo + (i : Nat)) := by
  obtain ⟨i, hi⟩ := List.getElem?_of_mem h
  exact ⟨i, rngL_get hi⟩
theorem sm_0 : smallI 0 = true := opq (by decide)
theorem sm_1 : smallI 1 = true := opq (by decide)
theorem sm_2 : smallI 2 = true := opq (by decide)
theorem sm_3 : smallI 3 = true := opq (by decide)
theorem sm_4 : smallI 4 = true := opq (by decide)
theorem sm_5 : smallI 5 = true := opq (by decide)
theorem sm_6 : smallI 6 = true := opq (by decide)
theorem sm_7 : smallI 7 = true := opq (by decide)
theorem sm_8 : smallI 8 = true := opq (by decide)
theorem sm_9 : smallI 9 = true := opq (by decide)
theorem sm_10 : smallI 10 = true := opq (by decide)
theorem sm_12 : smallI 12 = true := opq (by decide)
theorem sm_20 : smallI 20 = true := opq (by decide)
theorem sm_30 : smallI 30 = true := opq (by decide)
theorem sm_40 : smallI 40 = true := opq (by decide)
theorem sm_60 : smallI 60 = true := opq (by decide)
theorem sm_63 : smallI 63 = true := opq (by decide)
theorem sm_90 : smallI 90 = true := opq (by decide)
theorem sm_100 : smallI 100 = true := opq (by decide)
theorem o_bnd_ok {α β : Type} {a : α} {f : α → Res β} : (Res.ok a).bnd f = f a := opq rfl
theorem o_bnd_bad {α β : Type} {f : α → Res β} : (Res.bad : Res α).bnd f = .bad := opq rfl
theorem o_ofO_some {α : Type} {a : α} : ofO (some a) = .ok a := opq rfl
theorem o_ofO_none {α : Type} : ofO (none : Option α) = .bad := opq rfl
theorem o_map_cons {α β : Type} {f : α → β} {a : α} {l : List α} : (a :: l).map f = f a :: l.map f := opq rfl
theorem o_map_nil {α β : Type} {f : α → β} : ([] : List α).map f = [] := opq rfl
theorem o_len_cons {α : Type} {a : α} {l : List α} : (a :: l).length = l.length + 1 := opq rfl
theorem o_len_nil {α : Type} : ([] : List α).length = 0 := opq rfl
theorem o_cons_app {α : Type} {a : α} {l r : List α} : (a :: l) ++ r = a :: (l ++ r) := opq rfl
theorem o_nil_app {α : Type} {r : List α} : [] ++ r = r := opq rfl
theorem o_isi_int_none : isiD .int .none = false := opq rfl
theorem o_isi_int_bool {b : Bool} : isiD .int (.bool b) = true := opq rfl
theorem o_isi_int_int {i : Int} : isiD .int (.int i) = true := opq rfl
theorem o_isi_int_str {x : Str} : isiD .int (.str x) = false := opq rfl
theorem o_isi_int_list {xs : List PyData} : isiD .int (.list xs) = false := opq rfl
theorem o_isi_int_tuple {xs : List PyData} : isiD .int (.tuple xs) = false := opq rfl
theorem o_isi_int_dict {ks : List (PyData × PyData)} : isiD .int (.dict ks) = false := opq rfl
theorem o_isi_bool_none : isiD .bool .none = false := opq rfl
theorem o_isi_bool_bool {b : Bool} : isiD .bool (.bool b) = true := opq rfl
theorem o_isi_bool_int {i : Int} : isiD .bool (.int i) = false := opq rfl
theorem o_isi_bool_str {x : Str} : isiD .bool (.str x) = false := opq rfl
theorem o_isi_bool_list {xs : List PyData} : isiD .bool (.list xs) = false := opq rfl
theorem o_isi_bool_tuple {xs : List PyData} : isiD .bool (.tuple xs) = false := opq rfl
theorem o_isi_bool_dict {ks : List (PyData × PyData)} : isiD .bool (.dict ks) = false := opq rfl
theorem o_isi_tuple_none : isiD .tuple .none = false := opq rfl
theorem o_isi_tuple_bool {b : Bool} : isiD .tuple (.bool b) = false := opq rfl
theorem o_isi_tuple_int {i : Int} : isiD .tuple (.int i) = false := opq rfl
theorem o_isi_tuple_str {x : Str} : isiD .tuple (.str x) = false := opq rfl
theorem o_isi_tuple_list {xs : List PyData} : isiD .tuple (.list xs) = false := opq rfl
theorem o_isi_tuple_tuple {xs : List PyData} : isiD .tuple (.tuple xs) = true := opq rfl
theorem o_isi_tuple_dict {ks : List (PyData × PyData)} : isiD .tuple (.dict ks) = false := opq rfl
theorem o_isi_list_none : isiD .list .none = false := opq rfl
theorem o_isi_list_bool {b : Bool} : isiD .list (.bool b) = false := opq rfl
theorem o_isi_list_int {i : Int} : isiD .list (.int i) = false := opq rfl
theorem o_isi_list_str {x : Str} : isiD .list (.str x) = false := opq rfl
theorem o_isi_list_list {xs : List PyData} : isiD .list (.list xs) = true := opq rfl
theorem o_isi_list_tuple {xs : List PyData} : isiD .list (.tuple xs) = false := opq rfl
theorem o_isi_list_dict {ks : List (PyData × PyData)} : isiD .list (.dict ks) = false := opq rfl
theorem o_isi_str_none : isiD .str .none = false := opq rfl
theorem o_isi_str_bool {b : Bool} : isiD .str (.bool b) = false := opq rfl
theorem o_isi_str_int {i : Int} : isiD .str (.int i) = false := opq rfl
theorem o_isi_str_str {x : Str} : isiD .str (.str x) = true := opq rfl
theorem o_isi_str_list {xs : List PyData} : isiD .str (.list xs) = false := opq rfl
theorem o_isi_str_tuple {xs : List PyData} : isiD .str (.tuple xs) = false := opq rfl
theorem o_isi_str_dict {ks : List (PyData × PyData)} : isiD .str (.dict ks) = false := opq rfl
theorem o_isi_dict_none : isiD .dict .none = false := opq rfl
theorem o_isi_dict_bool {b : Bool} : isiD .dict (.bool b) = false := opq rfl
theorem o_isi_dict_int {i : Int} : isiD .dict (.int i) = false := opq rfl
theorem o_isi_dict_str {x : Str} : isiD .dict (.str x) = false := opq rfl
theorem o_isi_dict_list {xs : List PyData} : isiD .dict (.list xs) = false := opq rfl
theorem o_isi_dict_tuple {xs : List PyData} : isiD .dict (.tuple xs) = false := opq rfl
theorem o_isi_dict_dict {ks : List (PyData × PyData)} : isiD .dict (.dict ks) = true := opq rfl
theorem o_non_none : isNonD .none = true := opq rfl
theorem o_non_bool {b : Bool} : isNonD (.bool b) = false := opq rfl
theorem o_non_int {i : Int} : isNonD (.int i) = false := opq rfl
theorem o_non_str {x : Str} : isNonD (.str x) = false := opq rfl
theorem o_non_list {xs : List PyData} : isNonD (.list xs) = false := opq rfl
theorem o_non_tuple {xs : List PyData} : isNonD (.tuple xs) = false := opq rfl
theorem o_non_dict {ks : List (PyData × PyData)} : isNonD (.dict ks) = false := opq rfl
theorem o_add_i {i j : Int} : binD .add (.int i) (.int j) = some (.v (.int (i + j))) := opq rfl
theorem o_add_t {xs ys : List PyData} : binD .add (.tuple xs) (.tuple ys) = if xs.length + ys.length ≤ lim then some (.v (.tuple (xs ++ ys))) else none := opq rfl
theorem o_add_l {xs ys : List PyData} : binD .add (.list xs) (.list ys) = if xs.length + ys.length ≤ lim then some (.m (.l (xs ++ ys))) else none := opq rfl
theorem o_add_s {x y : Str} : binD .add (.str x) (.str y) = if x.length + y.length ≤ lim then some (.v (.str (x ++ y))) else none := opq rfl
theorem o_sub_i {i j : Int} : binD .sub (.int i) (.int j) = some (.v (.int (i - j))) := opq rfl
theorem o_mul_i {i j : Int} : binD .mul (.int i) (.int j) = if (-(2 ^ 64) < j ∧ j < 2 ^ 64) ∨ (-(2 ^ 64) < i ∧ i < 2 ^ 64) then some (.v (.int (i * j))) else none := opq rfl
theorem o_mul_t {xs : List PyData} {k : Int} : binD .mul (.tuple xs) (.int k) = if xs ≠ [] ∧ xs.length ≤ 1000 ∧ 0 ≤ k ∧ k ≤ 1000 then some (.v (.tuple (List.replicate k.toNat xs).flatten)) else none := opq rfl
theorem o_fdiv_i {i j : Int} : binD .fdiv (.int i) (.int j) = if 0 < j ∧ j < 1073741824 then some (.v (.int (i / j))) else none := opq rfl
theorem o_mod_i {i j : Int} : binD .mod (.int i) (.int j) = if 0 < j then some (.v (.int (i % j))) else none := opq rfl
theorem o_aug_a {i j : Int} : augD .add (.int i) (.int j) = some (.int (i + j)) := opq rfl
theorem o_aug_t {xs ys : List PyData} : augD .add (.tuple xs) (.tuple ys) = if xs.length + ys.length ≤ lim then some (.tuple (xs ++ ys)) else none := opq rfl
theorem o_aug_f {i j : Int} : augD .fdiv (.int i) (.int j) = if 0 < j ∧ j < 1073741824 then some (.int (i / j)) else none := opq rfl
theorem o_aug_s {i j : Int} : augD .sub (.int i) (.int j) = some (.int (i - j)) := opq rfl
theorem o_kD_l {i : Int} : kD (.inl i) = .int i := opq rfl
theorem o_kD_r {x : Str} : kD (.inr x) = .str x := opq rfl
theorem o_dK_i {i : Int} : dK (.int i) = some (.inl i) := opq rfl
theorem o_dK_s {x : Str} : dK (.str x) = some (.inr x) := opq rfl
theorem o_seq_l {xs : List PyData} : seqOf (.list xs) = some xs := opq rfl
theorem o_seq_t {xs : List PyData} : seqOf (.tuple xs) = some xs := opq rfl
theorem o_idx_l {xs : List PyData} {i : Int} : idxD (.list xs) (.int i) = L2.atI xs i := opq rfl
theorem o_idx_t {xs : List PyData} {i : Int} : idxD (.tuple xs) (.int i) = L2.atI xs i := opq rfl
theorem o_idx_d {ks : List (PyData × PyData)} {i : PyData} : idxD (.dict ks) i = (dK i).bind fun k => (ks.find? fun p => decide (dK p.1 = some k)).map (·.2) := opq rfl
theorem o_mk_append {xs : List PyData} : metK .append (.l xs) = true := opq rfl
theorem o_mk_extend {xs : List PyData} : metK .extend (.l xs) = true := opq rfl
theorem o_mk_pop0 {xs : List PyData} : metK .pop0 (.l xs) = true := opq rfl
theorem o_mk_dget {ks : List (L2.Key × PyData)} : metK .dget (.d ks) = true := opq rfl
theorem o_mk_dget2 {ks : List (L2.Key × PyData)} : metK .dget2 (.d ks) = true := opq rfl
theorem o_mk_dpop2 {ks : List (L2.Key × PyData)} : metK .dpop2 (.d ks) = true := opq rfl
theorem o_m_append {xs : List PyData} {d : PyData} : metD .append (.l xs) [d] = if xs.length < lim then some (.none, .l (xs ++ [d])) else none := opq rfl
theorem o_m_extend {xs : List PyData} {ys : List PyData} : metD .extend (.l xs) [.list ys] = if xs.length + ys.length ≤ lim then some (.none, .l (xs ++ ys)) else none := opq rfl
theorem o_m_pop0 {xs : List PyData} : metD .pop0 (.l xs) [] = (xs.getLast?).map fun x => (x, .l xs.dropLast) := opq rfl
theorem o_m_dget {ks : List (L2.Key × PyData)} {x : PyData} : metD .dget (.d ks) [x] = (dK x).map fun k => (((ks.find? fun p => decide (p.1 = k)).map (·.2)).getD .none, .d ks) := opq rfl
theorem o_m_dget2 {ks : List (L2.Key × PyData)} {x z : PyData} : metD .dget2 (.d ks) [x, z] = (dK x).map fun k => (((ks.find? fun p => decide (p.1 = k)).map (·.2)).getD z, .d ks) := opq rfl
theorem o_m_dpop2 {ks : List (L2.Key × PyData)} {x z : PyData} : metD .dpop2 (.d ks) [x, z] = (dK x).map fun k => (((ks.find? fun p => decide (p.1 = k)).map (·.2)).getD z, .d (ks.filter fun p => !decide (p.1 = k))) := opq rfl
theorem o_p_len_l {xs : List PyData} : primD .len [.list xs] = some (.v (.int xs.length)) := opq rfl
theorem o_p_len_t {xs : List PyData} : primD .len [.tuple xs] = some (.v (.int xs.length)) := opq rfl
theorem o_p_len_d {ks : List (PyData × PyData)} : primD .len [.dict ks] = some (.v (.int ks.length)) := opq rfl
theorem o_p_len_s {x : Str} : primD .len [.str x] = if x.length ≤ lim then some (.v (.int x.length)) else none := opq rfl
theorem o_p_tuple_l {xs : List PyData} : primD .tuple [.list xs] = some (.v (.tuple xs)) := opq rfl
theorem o_p_tuple_t {xs : List PyData} : primD .tuple [.tuple xs] = some (.v (.tuple xs)) := opq rfl
theorem o_p_list_l {xs : List PyData} : primD .list [.list xs] = some (.m (.l xs)) := opq rfl
theorem o_p_list_t {xs : List PyData} : primD .list [.tuple xs] = some (.m (.l xs)) := opq rfl
theorem o_p_list_d {ks : List (PyData × PyData)} : primD .list [.dict ks] = some (.m (.l (ks.map (·.1)))) := opq rfl
theorem o_p_all {xs : List PyData} : primD .all [.list xs] = (boolsD xs).map fun bs => .v (.bool (bs.all id)) := opq rfl
theorem o_p_any {xs : List PyData} : primD .any [.list xs] = (boolsD xs).map fun bs => .v (.bool (bs.any id)) := opq rfl
theorem o_p_sum {xs : List PyData} : primD .sum [.list xs] = (intsD xs).map fun ns => .v (.int ns.sum) := opq rfl
theorem o_p_min {xs : List PyData} : primD .min [.list xs] = ((intsD xs).bind minL).map fun n => .v (.int n) := opq rfl
theorem o_p_max {xs : List PyData} : primD .max [.list xs] = ((intsD xs).bind maxL).map fun n => .v (.int n) := opq rfl
theorem o_p_min2 {i j : Int} : primD .min2 [.int i, .int j] = some (.v (.int (if j < i then j else i))) := opq rfl
theorem o_p_max2 {i j : Int} : primD .max2 [.int i, .int j] = some (.v (.int (if j > i then j else i))) := opq rfl
theorem o_p_sortP {xs : List PyData} : primD .sortP [.list xs] = (pairsI xs).bind fun ps => if (decide (ps.length < 64) && ps.all okP) = true then some (.m (.l ((sortP ps).map pdP))) else none := opq rfl
theorem o_p_sortPt {xs : List PyData} : primD .sortP [.tuple xs] = (pairsI xs).bind fun ps => if (decide (ps.length < 64) && ps.all okP) = true then some (.m (.l ((sortP ps).map pdP))) else none := opq rfl
theorem o_p_sorted {xs : List PyData} : primD .sorted [.list xs] = (intsD xs).map fun ns => .m (.l ((sortI ns).map .int)) := opq rfl
theorem o_p_int_i {i : Int} : primD .int [.int i] = some (.v (.int i)) := opq rfl
theorem o_p_int_b {b : Bool} : primD .int [.bool b] = some (.v (.int (if b then 1 else 0))) := opq rfl
theorem o_p_abs {i : Int} : primD .abs [.int i] = some (.v (.int (if i < 0 then -i else i))) := opq rfl
theorem o_p_repr {x : PyData} : primD .repr [x] = if x.showable = true ∧ x.shown.length ≤ lim ∧ x.hasDict = false ∧ x.depth ≤ 150 then some (.v (.str x.shown)) else none := opq rfl
theorem o_p_tr_t {xs : List PyData} : primD .tupRev [.tuple xs] = some (.v (.tuple xs.reverse)) := opq rfl
theorem o_p_tr_l {xs : List PyData} : primD .tupRev [.list xs] = some (.v (.tuple xs.reverse)) := opq rfl
theorem o_p_dict {ks : List (PyData × PyData)} : primD .dict [.dict ks] = (dictK ks).map fun r => .m (.d r) := opq rfl
theorem o_mk_popAt {xs : List PyData} : metK .popAt (.l xs) = true := opq rfl
theorem o_m_popAt {xs : List PyData} {i : Int} : metD .popAt (.l xs) [.int i] = (L2.ixN xs.length i).bind fun j => if xs.length ≤ lim then (xs[j]?).map fun x => (x, .l (xs.eraseIdx j)) else none := opq rfl
theorem o_lst_l {xs : List PyData} : lstOf (.list xs) = some xs := opq rfl
theorem o_get_l {xs : List PyData} {m : Int} : getL (.l xs) m = L2.atI xs m := opq rfl
theorem cmp_ltt {xs ys : List PyData} : cmpD .lt (.tuple xs) (.tuple ys) = (intsD xs).bind fun ns => (intsD ys).map fun ms => HT.lexLt ns ms := opq rfl
section
variable {F : Fn} {ρ : Env}
theorem m_lset {a : E} : ev F (.lset a) ρ = (ev F a ρ).bk2 (k := ⟨fun x ρ1 => (ofO (keep x)).bk (k := ⟨fun x => (ofO (lstOf x)).bk (k := ⟨fun xs => (ofO (intsD xs)).bk (k := ⟨fun ns => if ns.length ≤ 4000 then .ok (.v (.int (usort ns).length), ρ1) else .bad⟩)⟩)⟩)⟩) := by rw [ev.eq_36]; rfl
theorem m_sxn {i j : Nat} {a x y : E} : evS F (.sxn i j a x y) ρ = (ev F x ρ).bk2 (k := ⟨fun rx ρ1 => (ofO (keep rx)).bk (k := ⟨fun dx => (ev F y ρ1).bk2 (k := ⟨fun ry ρ2 => (ofO (keep ry)).bk (k := ⟨fun dy => (ofO (own ρ2 i)).bk (k := ⟨fun _ => (ev F a ρ2).bk2 (k := ⟨fun q ρ3 => (ofO (keep q)).bk (k := ⟨fun k => (ofO (own ρ3 i)).bk (k := ⟨fun o => (ofO (setD o k dx)).bk (k := ⟨fun o2 => .ok (.nxt ((chg ρ3 i o2).set j (some (.v dy))))⟩)⟩)⟩)⟩)⟩)⟩)⟩)⟩)⟩) := by rw [evS.eq_21]; rfl
theorem m_sga {i : Nat} {a e : E} : evS F (.sga i a e) ρ = (ofO (own ρ i)).bk (k := ⟨fun _ => (ev F a ρ).bk2 (k := ⟨fun q ρ1 => (ofO (keep q)).bk (k := ⟨fun k => (ofO (asInt k)).bk (k := ⟨fun m => (ofO (own ρ1 i)).bk (k := ⟨fun o1 => (ofO (getL o1 m)).bk (k := ⟨fun old => (ofO (asInt old)).bk (k := ⟨fun n => (ev F e ρ1).bk2 (k := ⟨fun r ρ2 => (ofO (keep r)).bk (k := ⟨fun d => (ofO (asInt d)).bk (k := ⟨fun z => (ofO (own ρ2 i)).bk (k := ⟨fun o => (ofO (setD o (.int m) (.int (n + z)))).bk (k := ⟨fun o2 => .ok (.nxt (chg ρ2 i o2))⟩)⟩)⟩)⟩)⟩)⟩)⟩)⟩)⟩)⟩)⟩)⟩) := by rw [evS.eq_22]; rfl
def fzS (F : Fn) (ρ : Env) (i : Nat) (s : S) : Option SV → Res Fl
  | some (.m o) => evS F s (ρ.set i (some (.v o.data)))
  | _ => .bad
theorem fzS_m {i : Nat} {s : S} {o : MO} : fzS F ρ i s (some (.m o)) = evS F s (ρ.set i (some (.v o.data))) := opq rfl
theorem m_fz {i : Nat} {s : S} : evS F (.fz i s) ρ = fzS F ρ i s (slot ρ i) := by
  rw [evS.eq_23]
  generalize slot ρ i = x
  rcases x with _ | (_ | _ | _ | _) <;> rfl
end
end Rf

set_option Elab.async false
set_option linter.all false
set_option maxRecDepth 100000
set_option maxHeartbeats 1000000
namespace Rf
open PySem

/-! ### plain lemmas: rows, order, tables -/
def tl : PyData → Nat
  | .tuple xs => xs.length
  | _ => 0
theorem tl_nz {L D : Nat} {d : PyData} (h : nz L D d) : tl d ≤ L := by
  cases d with
  | tuple xs => exact (nz_tup h).1
  | _ => exact Nat.zero_le _
def inRng (lo hi : Int) : PyData → Bool
  | .int i => decide (lo ≤ i) && decide (i ≤ hi)
  | _ => false
def lenB (n : Nat) : Option Int → Bool
  | none => true
  | some k => decide ((n : Int) = k)
def isRow (d : PyData) (m : Option Int) (lo hi : Int) : Bool := match d with
  | .tuple xs => lenB xs.length m && xs.all (inRng lo hi)
  | _ => false
def mD : Option Int → PyData
  | none => .none
  | some k => .int k
def optD : Option Nat → PyData
  | none => .none
  | some k => .int k
def optI : Option Int → PyData
  | none => .none
  | some k => .int k
def pairD (p : Int × Int) : PyData := .tuple [.int p.1, .int p.2]
theorem filt0 {p : PyData → Bool} {xs : List PyData} : decide (((xs.filter fun x => !p x).length : Int) = 0) = xs.all p := by
  by_cases h : xs.all p = true
  · rw [h, List.filter_eq_nil_iff.mpr (fun x hx => by simp [List.all_eq_true.mp h x hx])]; rfl
  · rw [Bool.not_eq_true] at h
    rw [h, decide_eq_false_iff_not]
    intro h2
    have h2 : xs.filter (fun x => !p x) = [] := List.eq_nil_of_length_eq_zero (by omega)
    rw [List.filter_eq_nil_iff] at h2
    have : xs.all p = true := List.all_eq_true.mpr fun x hx => by have := h2 x hx; simpa using this
    rw [this] at h; exact absurd h (by decide)
theorem intsD_map {is : List Int} : intsD (is.map PyData.int) = some is := by
  induction is with
  | nil => rfl
  | cons i is ih => simp only [List.map_cons, intsD, ih, Option.map_some]
theorem boolsD_map {bs : List Bool} : boolsD (bs.map PyData.bool) = some bs := by
  induction bs with
  | nil => rfl
  | cons i is ih => simp only [List.map_cons, boolsD, ih, Option.map_some]
theorem canLay_ints {is : List Int} : PyData.canLayAll0 (is.map PyData.int) = true := canLayAll_iff.mpr fun x hx => by
  obtain ⟨i, _, rfl⟩ := List.mem_map.mp hx
  rfl
theorem ne_lnil {xs : List PyData} (h : PyData.canLayAll0 xs = true) : cmpD .ne (.list xs) (.list []) = some (!decide (xs.length = 0)) := by
  rw [ne_of_lay (by simpa only [PyData.canLay0] using h) (by simp [PyData.canLay0, PyData.canLayAll0]) (by
    simp only [PyData.depth, PyData.depthAll]; omega)]
  cases xs <;> simp [PyData.eqv, PyData.eqvAll]
theorem ne_tnil {xs : List PyData} (h : PyData.canLayAll0 xs = true) : cmpD .ne (.tuple xs) (.tuple []) = some (!decide (xs.length = 0)) := by
  rw [ne_of_lay (by simpa only [PyData.canLay0] using h) (by simp [PyData.canLay0, PyData.canLayAll0]) (by
    simp only [PyData.depth, PyData.depthAll]; omega)]
  cases xs <;> simp [PyData.eqv, PyData.eqvAll]
theorem flat_ints {is : List Int} : (is.map PyData.int).all flat = true := List.all_eq_true.mpr fun x hx => by
  obtain ⟨i, _, rfl⟩ := List.mem_map.mp hx
  rfl
theorem inD_ints {i : Int} {is : List Int} : inD (.int i) (is.map PyData.int) = decide (i ∈ is) := by
  induction is with
  | nil => rfl
  | cons j is ih =>
    have ih : (is.map PyData.int).any (fun z => PyData.eqv z (.int i)) = decide (i ∈ is) := ih
    show ((PyData.int j :: is.map PyData.int).any fun z => PyData.eqv z (.int i)) = _
    rw [List.any_cons, ih]
    have e : PyData.eqv (.int j) (.int i) = decide (i = j) := by
      simp only [PyData.eqv]
      by_cases h : i = j
      · subst h; simp
      · simp [h, Ne.symm h]
    rw [e]
    simp
theorem in_ints {i : Int} {is : List Int} : cmpD .isIn (.int i) (.list (is.map PyData.int)) = some (decide (i ∈ is)) := by
  show (if (flat (.int i) && (is.map PyData.int).all flat) = true then some (inD (.int i) (is.map PyData.int)) else none) = _
  rw [if_pos (by rw [flat_ints]; rfl), inD_ints]
theorem notin_ints {i : Int} {is : List Int} : cmpD .notIn (.int i) (.list (is.map PyData.int)) = some (!decide (i ∈ is)) := by
  show (if (flat (.int i) && (is.map PyData.int).all flat) = true then some (!inD (.int i) (is.map PyData.int)) else none) = _
  rw [if_pos (by rw [flat_ints]; rfl), inD_ints]
theorem rng_filter {p : PyData → Bool} {n : Nat} : (rngL 0 n).filter p = ((List.range n).filter fun k => p (.int (k : Nat))).map fun k => .int (k : Nat) := by
  have e : rngL 0 n = (List.range n).map fun k => .int (k : Nat) := by
    unfold rngL
    exact List.map_congr_left fun k _ => by rw [Int.zero_add]
  rw [e, List.filter_map]
  rfl
/-- ascending rows of numbers have their least one ahead -/
theorem minL_asc : ∀ {is : List Int}, is.Pairwise (· ≤ ·) → minL is = is.head?
  | [], _ => rfl
  | x :: r, h => by
    have hx := (List.pairwise_cons.mp h).1
    show some (r.foldl min x) = some x
    congr 1
    clear h
    induction r with
    | nil => rfl
    | cons y r ih =>
      have : min x y = x := by have := hx y List.mem_cons_self; omega
      rw [List.foldl_cons, this]
      exact ih fun z hz => hx z (List.mem_cons_of_mem _ hz)
theorem least_rng {p : Nat → Bool} {n : Nat} : minL (((List.range n).filter p).map Int.ofNat) = ((List.range n).find? p).map Int.ofNat := by
  rw [minL_asc, List.head?_map, List.head?_filter]
  rw [List.pairwise_map]
  exact (List.Pairwise.filter _ List.pairwise_le_range).imp fun h => Int.ofNat_le.mpr h
/-- the first place of a number not less than the next one -/
def ordP (ks : List Int) : Option Nat := (List.range (ks.length - 1)).find? fun k => decide (ks[k + 1]! ≤ ks[k]!)
theorem optI_nat {o : Option Nat} : optI (o.map Int.ofNat) = optD o := by cases o <;> rfl
/-- a loop that looks for the first of a kind -/
theorem for_find {bind : PyData → Env → Option Env} {body : EvS} {p : PyData → Bool} {R : PyData → RV} {I J : Env → Prop} : ∀ (xs : List PyData) (ρ : Env), I ρ →
    (∀ x ρ, x ∈ xs → I ρ → ∃ ρ1, bind x ρ = some ρ1 ∧ (p x = false → ∃ ρ2, body ρ1 = .ok (.nxt ρ2) ∧ I ρ2) ∧ (p x = true → ∃ ρ2, body ρ1 = .ok (.ret (R x) ρ2) ∧ J ρ2)) →
    (xs.find? p = none → ∃ ρ', forR bind body xs ρ = .ok (.nxt ρ') ∧ I ρ') ∧ (∀ x, xs.find? p = some x → ∃ ρ', forR bind body xs ρ = .ok (.ret (R x) ρ') ∧ J ρ')
  | [], ρ, h, _ => ⟨fun _ => ⟨ρ, rfl, h⟩, fun x hx => absurd hx (by simp)⟩
  | x :: xs, ρ, h, step => by
    obtain ⟨ρ1, h1, h2, h3⟩ := step x ρ List.mem_cons_self h
    cases hp : p x with
    | false =>
      obtain ⟨ρ2, h4, h5⟩ := h2 hp
      have ih := for_find xs ρ2 h5 fun y ρ hy hI => step y ρ (List.mem_cons_of_mem _ hy) hI
      have e : (x :: xs).find? p = xs.find? p := by simp [hp]
      have e2 : forR bind body (x :: xs) ρ = forR bind body xs ρ2 := by simp only [forR, h1, ofO_some, bnd_ok, h4]
      rw [e, e2]
      exact ih
    | true =>
      obtain ⟨ρ2, h4, h5⟩ := h3 hp
      have e : (x :: xs).find? p = some x := by simp [hp]
      rw [e]
      refine And.intro (fun h => absurd h (by simp)) (fun y hy => ?_)
      cases hy
      exact ⟨ρ2, by simp only [forR, h1, ofO_some, bnd_ok, h4], h5⟩

/-! ### tables -/
abbrev Tab := List (Int × Int)
abbrev Deed := Sum (Int × Int) Int
def putT (t : Tab) (k v : Int) : Tab := if (t.any fun p => decide (p.1 = k)) = true then t.map fun p => if p.1 = k then (p.1, v) else p else t ++ [(k, v)]
def dropT (t : Tab) (k : Int) : Tab := t.filter fun p => !decide (p.1 = k)
def stepT (t : Tab) : Deed → Tab
  | .inl p => putT t p.1 p.2
  | .inr k => dropT t k
def tab (ds : List Deed) : Tab := ds.foldl stepT []
def keysT (t : Tab) : List Int := t.map (·.1)
def lookT (t : Tab) (k : Int) : Option Int := (t.find? fun p => decide (p.1 = k)).map (·.2)
theorem tab_snoc {ds : List Deed} {d : Deed} : tab (ds ++ [d]) = stepT (tab ds) d := by simp [tab]
theorem any_keysT {t : Tab} {k : Int} : (t.any fun p => decide (p.1 = k)) = decide (k ∈ keysT t) := by
  induction t with
  | nil => rfl
  | cons p t ih =>
    rw [List.any_cons, ih]
    by_cases h : p.1 = k
    · subst h; simp [keysT]
    · have e : k ∈ keysT (p :: t) ↔ k ∈ keysT t := by simp only [keysT, List.map_cons, List.mem_cons, Ne.symm h, false_or]
      rw [decide_eq_decide.mpr e, decide_eq_false h, Bool.false_or]
theorem keys_putT {t : Tab} {k v : Int} : keysT (putT t k v) = if k ∈ keysT t then keysT t else keysT t ++ [k] := by
  unfold putT
  rw [any_keysT]
  by_cases h : k ∈ keysT t
  · rw [if_pos (by simpa using h), if_pos h]
    unfold keysT
    rw [List.map_map]
    exact List.map_congr_left fun p _ => by
      show (if p.1 = k then (p.1, v) else p).1 = p.1
      split <;> rfl
  · rw [if_neg (by simpa using h), if_neg h]
    simp [keysT]
theorem keys_dropT {t : Tab} {k : Int} : keysT (dropT t k) = (keysT t).filter fun j => !decide (j = k) := by
  simp only [keysT, dropT, List.filter_map]; rfl
theorem look_putT {t : Tab} {k v j : Int} : lookT (putT t k v) j = if j = k then some v else lookT t j := by
  unfold putT
  by_cases h : (t.any fun p => decide (p.1 = k)) = true
  · rw [if_pos h]
    unfold lookT
    rw [List.find?_map]
    have e : ((fun p : Int × Int => decide (p.1 = j)) ∘ fun p => if p.1 = k then (p.1, v) else p) = fun p => decide (p.1 = j) := by
      funext p
      show decide ((if p.1 = k then (p.1, v) else p).1 = j) = _
      split <;> rfl
    rw [e]
    cases hf : t.find? (fun p => decide (p.1 = j)) with
    | none =>
      have h3 := List.find?_eq_none.mp hf
      obtain ⟨p, hp, hk⟩ := List.any_eq_true.mp h
      have : ¬ j = k := fun e => h3 p hp (by rw [e]; exact hk)
      rw [if_neg this]; rfl
    | some p =>
      have hp : p.1 = j := by simpa using List.find?_some hf
      show some ((if p.1 = k then (p.1, v) else p).2) = _
      rw [hp]
      split <;> rfl
  · rw [if_neg h]
    unfold lookT
    rw [List.find?_append]
    by_cases hj : j = k
    · subst hj
      rw [Bool.not_eq_true, any_keysT, decide_eq_false_iff_not] at h
      have : t.find? (fun p => decide (p.1 = j)) = none := List.find?_eq_none.mpr fun p hp e => h (List.mem_map.mpr ⟨p, hp, by simpa using e⟩)
      simp [this]
    · have : ¬ k = j := fun e => hj e.symm
      simp [hj, this]
end Rf

set_option Elab.async false
set_option linter.all false
set_option maxRecDepth 100000
set_option maxHeartbeats 1000000
namespace Rf
open PySem
/-! ### sorted rows -/
def Asc (R : Tab) : Prop := R.Pairwise fun p q => p.1 < q.1
theorem look_mem {R : Tab} {k v : Int} (h : lookT R k = some v) : (k, v) ∈ R := by
  unfold lookT at h
  obtain ⟨p, hp, rfl⟩ := Option.map_eq_some_iff.mp h
  have h1 := List.mem_of_find?_eq_some hp
  have h2 : p.1 = k := by simpa using List.find?_some hp
  rw [← h2]; exact h1
theorem look_none {R : Tab} {k : Int} : lookT R k = none ↔ k ∉ keysT R := by
  unfold lookT keysT
  rw [Option.map_eq_none_iff, List.find?_eq_none]
  constructor
  · intro h hm
    obtain ⟨p, hp, rfl⟩ := List.mem_map.mp hm
    exact h p hp (by simp)
  · intro h p hp e
    exact h (List.mem_map.mpr ⟨p, hp, by simpa using e⟩)
theorem look_cons {p : Int × Int} {R : Tab} {k : Int} : lookT (p :: R) k = if p.1 = k then some p.2 else lookT R k := by
  unfold lookT
  rw [List.find?_cons]
  by_cases h : p.1 = k <;> simp [h]
theorem asc_ext : ∀ {R R' : Tab}, Asc R → Asc R' → (∀ k, lookT R k = lookT R' k) → R = R'
  | [], [], _, _, _ => rfl
  | [], q :: r, _, _, h => by have := h q.1; rw [look_cons, if_pos rfl] at this; cases this
  | p :: r, [], _, _, h => by have := h p.1; rw [look_cons, if_pos rfl] at this; cases this
  | p :: r, q :: r', h1, h2, h => by
    obtain ⟨a1, a2⟩ := List.pairwise_cons.mp h1
    obtain ⟨b1, b2⟩ := List.pairwise_cons.mp h2
    have na : ∀ k, k ≤ p.1 → lookT r k = none := fun k hk => look_none.mpr fun hm => by
      obtain ⟨x, hx, rfl⟩ := List.mem_map.mp hm
      have := a1 x hx; omega
    have nb : ∀ k, k ≤ q.1 → lookT r' k = none := fun k hk => look_none.mpr fun hm => by
      obtain ⟨x, hx, rfl⟩ := List.mem_map.mp hm
      have := b1 x hx; omega
    have hpq : p.1 = q.1 := by
      by_cases c : p.1 = q.1
      · exact c
      · have e1 := h p.1
        have e2 := h q.1
        rw [look_cons, look_cons, if_pos rfl, if_neg (fun e => c e.symm)] at e1
        rw [look_cons, look_cons, if_pos rfl, if_neg c] at e2
        by_cases c2 : p.1 ≤ q.1
        · rw [nb _ c2] at e1; cases e1
        · rw [na _ (by omega)] at e2; cases e2
    have hv : p.2 = q.2 := by
      have e1 := h p.1
      rw [look_cons, look_cons, if_pos rfl, if_pos hpq.symm] at e1
      exact Option.some.inj e1
    have hp : p = q := Prod.ext hpq hv
    subst hp
    rw [asc_ext a2 b2 fun k => ?_]
    by_cases c : p.1 = k
    · rw [na k (by omega), nb k (by omega)]
    · have e := h k
      rwa [look_cons, look_cons, if_neg c, if_neg c] at e
def insR (R : Tab) (k v : Int) : Tab := (R.filter fun p => decide (p.1 < k)) ++ (k, v) :: R.filter fun p => decide (k < p.1)
def dropR (R : Tab) (k : Int) : Tab := dropT R k
theorem asc_ins {R : Tab} {k v : Int} (h : Asc R) : Asc (insR R k v) := by
  unfold Asc insR
  rw [List.pairwise_append, List.pairwise_cons]
  refine ⟨List.Pairwise.filter _ h, ⟨fun q hq => by simpa using (List.mem_filter.mp hq).2, List.Pairwise.filter _ h⟩, fun p hp q hq => ?_⟩
  have hp : p.1 < k := by simpa using (List.mem_filter.mp hp).2
  rcases List.mem_cons.mp hq with rfl | hq
  · exact hp
  · have hq : k < q.1 := by simpa using (List.mem_filter.mp hq).2
    omega
theorem asc_drop {R : Tab} {k : Int} (h : Asc R) : Asc (dropR R k) := List.Pairwise.filter _ h
theorem look_filter {R : Tab} {f : Int → Bool} {j : Int} : lookT (R.filter fun p => f p.1) j = if f j = true then lookT R j else none := by
  induction R with
  | nil => simp [lookT]
  | cons p R ih =>
    rw [List.filter_cons]
    by_cases hp : f p.1 = true
    · rw [if_pos hp, look_cons, look_cons, ih]
      by_cases c : p.1 = j
      · subst c; simp [hp]
      · simp [c]
    · rw [if_neg hp, look_cons, ih]
      by_cases c : p.1 = j
      · subst c; simp [hp]
      · simp [c]
theorem look_append {R R' : Tab} {j : Int} : lookT (R ++ R') j = (lookT R j).or (lookT R' j) := by
  unfold lookT
  rw [List.find?_append]
  cases R.find? (fun p => decide (p.1 = j)) <;> rfl
theorem look_ins {R : Tab} {k v j : Int} : lookT (insR R k v) j = if j = k then some v else lookT R j := by
  unfold insR
  have e1 := look_filter (R := R) (f := fun i => decide (i < k)) (j := j)
  have e2 := look_filter (R := R) (f := fun i => decide (k < i)) (j := j)
  rw [look_append, look_cons, e1, e2]
  by_cases c : j = k
  · subst c; simp
  · have c' : ¬ k = j := fun e => c e.symm
    rw [if_neg c, if_neg c']
    by_cases c2 : j < k
    · have : ¬ k < j := by omega
      simp [c2, this]
    · have : k < j := by omega
      simp [c2, this]
theorem look_dropT {t : Tab} {k j : Int} : lookT (dropT t k) j = if j = k then none else lookT t j := by
  have e := look_filter (R := t) (f := fun i => !decide (i = k)) (j := j)
  unfold dropT
  rw [e]
  by_cases c : j = k <;> simp [c]
/-! sorting -/
theorem mem_insI {x y : Int} {l : List Int} : y ∈ insI x l ↔ y = x ∨ y ∈ l := by
  induction l with
  | nil => simp [insI]
  | cons z l ih =>
    unfold insI
    split
    · simp
    · simp only [List.mem_cons, ih]
      constructor <;> (intro h; rcases h with h | h | h <;> simp [h])
theorem mem_sortI {y : Int} {l : List Int} : y ∈ sortI l ↔ y ∈ l := by
  induction l with
  | nil => simp [sortI]
  | cons z l ih => simp only [sortI, mem_insI, ih, List.mem_cons]
theorem asc_insI {x : Int} {l : List Int} (h : l.Pairwise (· < ·)) (hx : x ∉ l) : (insI x l).Pairwise (· < ·) := by
  induction l with
  | nil => simp [insI]
  | cons z l ih =>
    obtain ⟨h1, h2⟩ := List.pairwise_cons.mp h
    have hz : x ≠ z := fun e => hx (e ▸ List.mem_cons_self)
    unfold insI
    split
    · rw [List.pairwise_cons]
      refine ⟨fun y hy => ?_, h⟩
      rcases List.mem_cons.mp hy with rfl | hy
      · omega
      · have := h1 y hy; omega
    · rw [List.pairwise_cons]
      refine ⟨fun y hy => ?_, ih h2 fun hm => hx (List.mem_cons_of_mem _ hm)⟩
      rcases mem_insI.mp hy with rfl | hy
      · omega
      · exact h1 y hy
theorem asc_sortI {l : List Int} (h : l.Nodup) : (sortI l).Pairwise (· < ·) := by
  induction l with
  | nil => simp [sortI]
  | cons z l ih =>
    obtain ⟨h1, h2⟩ := List.nodup_cons.mp h
    exact asc_insI (ih h2) fun hm => h1 (mem_sortI.mp hm)
theorem len_insI {x : Int} {l : List Int} : (insI x l).length = l.length + 1 := by
  induction l with
  | nil => rfl
  | cons z l ih =>
    unfold insI
    split
    · rfl
    · simp [ih]
theorem len_sortI {l : List Int} : (sortI l).length = l.length := by
  induction l with
  | nil => rfl
  | cons z l ih => simp only [sortI, len_insI, ih, List.length_cons]
def sortT (t : Tab) : Tab := (sortI (keysT t)).map fun k => (k, (lookT t k).getD 0)
theorem keys_sortT {t : Tab} : keysT (sortT t) = sortI (keysT t) := by
  unfold sortT keysT
  rw [List.map_map]
  exact List.map_id _
theorem len_sortT {t : Tab} : (sortT t).length = t.length := by
  rw [← List.length_map (f := (·.1)), ← List.length_map (f := (·.1)) (as := t)]
  show (keysT (sortT t)).length = (keysT t).length
  rw [keys_sortT, len_sortI]
theorem asc_sortT {t : Tab} (h : (keysT t).Nodup) : Asc (sortT t) := by
  have e := asc_sortI h
  unfold Asc sortT
  rw [List.pairwise_map]
  exact e
theorem look_sortT {t : Tab} {k : Int} : lookT (sortT t) k = lookT t k := by
  have aux : ∀ (l : List Int), lookT (l.map fun k => (k, (lookT t k).getD 0)) k = if k ∈ l then some ((lookT t k).getD 0) else none := fun l => by
    induction l with
    | nil => simp [lookT]
    | cons j l ih =>
      rw [List.map_cons, look_cons, ih]
      by_cases c : j = k
      · subst c; simp
      · simp [c, Ne.symm c]
  unfold sortT
  rw [aux]
  by_cases c : k ∈ keysT t
  · rw [if_pos (mem_sortI.mpr c)]
    cases h : lookT t k with
    | none => exact absurd c (look_none.mp h)
    | some v => rfl
  · rw [if_neg fun h => c (mem_sortI.mp h), look_none.mpr c]
theorem nodup_putT {t : Tab} {k v : Int} (h : (keysT t).Nodup) : (keysT (putT t k v)).Nodup := by
  rw [keys_putT]
  split
  · exact h
  · rename_i hk
    rw [List.nodup_append]
    refine ⟨h, by simp, fun a ha b hb e => ?_⟩
    rw [List.mem_singleton.mp hb] at e
    exact hk (e ▸ ha)
theorem nodup_dropT {t : Tab} {k : Int} (h : (keysT t).Nodup) : (keysT (dropT t k)).Nodup := by
  rw [keys_dropT]; exact h.filter _
theorem nodup_tab {ds : List Deed} : (keysT (tab ds)).Nodup := by
  have aux : ∀ (ds : List Deed) (t : Tab), (keysT t).Nodup → (keysT (ds.foldl stepT t)).Nodup := fun ds => by
    induction ds with
    | nil => exact fun t h => h
    | cons d ds ih =>
      intro t h
      rw [List.foldl_cons]
      refine ih _ ?_
      cases d with
      | inl p => exact nodup_putT h
      | inr k => exact nodup_dropT h
  exact aux ds [] (by simp [keysT])
theorem sort_putT {t : Tab} {k v : Int} (h : (keysT t).Nodup) : sortT (putT t k v) = insR (sortT t) k v :=
  asc_ext (asc_sortT (nodup_putT h)) (asc_ins (asc_sortT h)) fun j => by rw [look_sortT, look_putT, look_ins, look_sortT]
theorem sort_dropT {t : Tab} {k : Int} (h : (keysT t).Nodup) : sortT (dropT t k) = dropR (sortT t) k :=
  asc_ext (asc_sortT (nodup_dropT h)) (asc_drop (asc_sortT h)) fun j => by unfold dropR; rw [look_sortT, look_dropT, look_dropT, look_sortT]
/-! the least -/
theorem pl_foldl_min : ∀ {r : List Int} {x : Int}, (r.foldl min x = x ∨ r.foldl min x ∈ r) ∧ r.foldl min x ≤ x ∧ ∀ y ∈ r, r.foldl min x ≤ y
  | [], x => ⟨.inl rfl, Int.le_refl _, by simp⟩
  | y :: r, x => by
    obtain ⟨h1, h2, h3⟩ := pl_foldl_min (r := r) (x := min x y)
    rw [List.foldl_cons]
    refine ⟨?_, by omega, fun z hz => ?_⟩
    · rcases h1 with h1 | h1
      · rw [h1]
        by_cases c : x ≤ y
        · exact .inl (by omega)
        · refine .inr (List.mem_cons.mpr (.inl (by omega)))
      · exact .inr (List.mem_cons_of_mem _ h1)
    · rcases List.mem_cons.mp hz with rfl | hz
      · omega
      · exact h3 z hz
theorem pl_minL_spec {is : List Int} {m : Int} (h : minL is = some m) : m ∈ is ∧ ∀ x ∈ is, m ≤ x := by
  cases is with
  | nil => cases h
  | cons x r =>
    obtain ⟨h1, h2, h3⟩ := pl_foldl_min (r := r) (x := x)
    have h : r.foldl min x = m := Option.some.inj h
    rw [h] at h1 h2 h3
    refine ⟨?_, fun y hy => ?_⟩
    · rcases h1 with h1 | h1
      · rw [h1]; exact List.mem_cons_self
      · exact List.mem_cons_of_mem _ h1
    · rcases List.mem_cons.mp hy with rfl | hy
      · exact h2
      · exact h3 y hy
theorem minL_ext {a b : List Int} (h : ∀ x, x ∈ a ↔ x ∈ b) : minL a = minL b := by
  cases ha : minL a with
  | none =>
    cases a with
    | cons x r => cases ha
    | nil =>
      cases b with
      | nil => rfl
      | cons y r => exact absurd ((h y).mpr List.mem_cons_self) (by simp)
  | some m =>
    obtain ⟨h1, h2⟩ := pl_minL_spec ha
    cases hb : minL b with
    | none =>
      cases b with
      | cons x r => cases hb
      | nil => exact absurd ((h m).mp h1) (by simp)
    | some m' =>
      obtain ⟨h3, h4⟩ := pl_minL_spec hb
      have := h2 m' ((h m').mpr h3)
      have := h4 m ((h m).mp h1)
      congr 1; omega
def nextR (R : Tab) (k : Int) : Option Int := ((keysT R).filter fun j => decide (k ≤ j)).head?
theorem next_sortT {t : Tab} {k : Int} (h : (keysT t).Nodup) : minL ((keysT t).filter fun j => decide (k ≤ j)) = nextR (sortT t) k := by
  have e : minL ((keysT t).filter fun j => decide (k ≤ j)) = minL ((keysT (sortT t)).filter fun j => decide (k ≤ j)) := minL_ext fun x => by
    rw [List.mem_filter, List.mem_filter, keys_sortT, mem_sortI]
  rw [e, minL_asc]
  · rfl
  · rw [keys_sortT]
    exact (List.Pairwise.filter _ (asc_sortI h)).imp fun h => Int.le_of_lt h
/-! a table as a dict -/
def tabK (t : Tab) : List (L2.Key × PyData) := t.map fun p => (.inl p.1, .int p.2)
theorem putP_tab {t : Tab} {k v : Int} : putP (tabK t) (.inl k) (.int v) = tabK (putT t k v) := by
  unfold putP putT tabK
  rw [List.any_map]
  have e : ((fun p : L2.Key × PyData => decide (p.1 = .inl k)) ∘ fun p : Int × Int => (Sum.inl p.1, PyData.int p.2)) = fun p => decide (p.1 = k) := by
    funext p
    show decide ((Sum.inl p.1 : L2.Key) = .inl k) = _
    exact decide_eq_decide.mpr ⟨fun h => Sum.inl.inj h, fun h => by rw [h]⟩
  rw [e]
  split
  · rw [List.map_map, List.map_map]
    refine List.map_congr_left fun p _ => ?_
    show (if (Sum.inl p.1 : L2.Key) = .inl k then ((Sum.inl p.1 : L2.Key), PyData.int v) else (.inl p.1, .int p.2)) = (Sum.inl (if p.1 = k then (p.1, v) else p).1, PyData.int (if p.1 = k then (p.1, v) else p).2)
    by_cases h : p.1 = k
    · rw [if_pos (by rw [h]), if_pos h]
    · rw [if_neg (fun e => h (Sum.inl.inj e)), if_neg h]
  · simp
theorem find_tab {t : Tab} {k : Int} : ((tabK t).find? fun p => decide (p.1 = .inl k)).map (·.2) = (lookT t k).map .int := by
  unfold tabK lookT
  rw [List.find?_map]
  have e : ((fun p : L2.Key × PyData => decide (p.1 = .inl k)) ∘ fun p : Int × Int => (Sum.inl p.1, PyData.int p.2)) = fun p => decide (p.1 = k) := by
    funext p
    show decide ((Sum.inl p.1 : L2.Key) = .inl k) = _
    exact decide_eq_decide.mpr ⟨fun h => Sum.inl.inj h, fun h => by rw [h]⟩
  rw [e]
  cases t.find? (fun p => decide (p.1 = k)) <;> rfl
theorem get_tab {t : Tab} {k : Int} : (((tabK t).find? fun p => decide (p.1 = .inl k)).map (·.2)).getD .none = optI (lookT t k) := by
  rw [find_tab]
  cases lookT t k <;> rfl
theorem pop_tab {t : Tab} {k : Int} : ((tabK t).filter fun p => !decide (p.1 = .inl k)) = tabK (dropT t k) := by
  unfold tabK dropT
  rw [List.filter_map]
  congr 1
  refine List.filter_congr fun p _ => ?_
  show (!decide ((Sum.inl p.1 : L2.Key) = .inl k)) = _
  congr 1
  exact decide_eq_decide.mpr ⟨fun h => Sum.inl.inj h, fun h => by rw [h]⟩
theorem data_tab {t : Tab} : (MO.d (tabK t)).data = .dict (t.map fun p => (.int p.1, .int p.2)) := by
  simp only [MO.data, tabK, List.map_map]; rfl
theorem keysD_tab {t : Tab} : (t.map fun p => (PyData.int p.1, PyData.int p.2)).map (·.1) = (keysT t).map PyData.int := by
  simp only [keysT, List.map_map]; rfl
theorem idx_tab {t : Tab} {k : Int} : idxD (.dict (t.map fun p => (PyData.int p.1, PyData.int p.2))) (.int k) = (lookT t k).map .int := by
  show (some (Sum.inl k)).bind (fun k => ((t.map fun p => (PyData.int p.1, PyData.int p.2)).find? fun p => decide (dK p.1 = some k)).map (·.2)) = _
  rw [Option.bind_some, List.find?_map]
  unfold lookT
  have e : ((fun p : PyData × PyData => decide (dK p.1 = some (Sum.inl k))) ∘ fun p : Int × Int => (PyData.int p.1, PyData.int p.2)) = fun p => decide (p.1 = k) := by
    funext p
    show decide (some (Sum.inl p.1 : L2.Key) = some (.inl k)) = _
    exact decide_eq_decide.mpr ⟨fun h => Sum.inl.inj (Option.some.inj h), fun h => by rw [h]⟩
  rw [e]
  cases t.find? (fun p => decide (p.1 = k)) <;> rfl
def deedD : Deed → PyData
  | .inl p => .tuple [.str (Str.ofString "put"), .int p.1, .int p.2]
  | .inr k => .tuple [.str (Str.ofString "drop"), .int k]
def in99 (i : Int) : Prop := 0 ≤ i ∧ i ≤ 99
def deedOk : Deed → Prop
  | .inl p => in99 p.1 ∧ in99 p.2
  | .inr k => in99 k
/-- rows of a table: few, ascending, small -/
def RowOk (R : Tab) : Prop := Asc R ∧ R.length ≤ 40 ∧ ∀ p ∈ R, in99 p.1 ∧ in99 p.2
theorem tab_ok {ds : List Deed} (h : ∀ d ∈ ds, deedOk d) : ∀ p ∈ tab ds, in99 p.1 ∧ in99 p.2 := by
  have aux : ∀ (ds : List Deed) (t : Tab), (∀ d ∈ ds, deedOk d) → (∀ p ∈ t, in99 p.1 ∧ in99 p.2) → ∀ p ∈ ds.foldl stepT t, in99 p.1 ∧ in99 p.2 := fun ds => by
    induction ds with
    | nil => exact fun t _ h => h
    | cons d ds ih =>
      intro t hd ht
      rw [List.foldl_cons]
      have h0 := hd d List.mem_cons_self
      refine ih _ (fun d h => hd d (List.mem_cons_of_mem _ h)) ?_
      cases d with
      | inl p =>
        intro q hq
        have hq : q ∈ putT t p.1 p.2 := hq
        unfold putT at hq
        split at hq
        · obtain ⟨r, hr, rfl⟩ := List.mem_map.mp hq
          have := ht r hr
          split
          · exact ⟨this.1, h0.2⟩
          · exact this
        · rcases List.mem_append.mp hq with hq | hq
          · exact ht q hq
          · rw [List.mem_singleton.mp hq]; exact h0
      | inr k => exact fun q hq => ht q ((List.mem_filter.mp hq).1)
  exact aux ds [] h (by simp)
theorem rowOk_tab {ds : List Deed} (h : ∀ d ∈ ds, deedOk d) (hl : (tab ds).length ≤ 40) : RowOk (sortT (tab ds)) := by
  refine ⟨asc_sortT nodup_tab, by rw [len_sortT]; exact hl, fun p hp => ?_⟩
  unfold sortT at hp
  obtain ⟨k, hk, rfl⟩ := List.mem_map.mp hp
  have hk := mem_sortI.mp hk
  obtain ⟨q, hq, rfl⟩ := List.mem_map.mp hk
  have h1 := tab_ok h q hq
  refine ⟨h1.1, ?_⟩
  cases hv : lookT (tab ds) q.1 with
  | none => exact absurd hk (look_none.mp hv)
  | some v => exact (tab_ok h _ (look_mem hv)).2
end Rf

set_option Elab.async false
set_option linter.all false
set_option maxRecDepth 100000
set_option maxHeartbeats 1000000
namespace Rf
open PySem
/-! ### loops by while; places in sorted rows -/
theorem while_inv {c : Env → Res (RV × Env)} {body : EvS} {I : Nat → Env → Prop} {Q : Env → Prop}
    (step : ∀ k ρ, I k ρ → (∃ ρ1, c ρ = .ok (.v (.bool false), ρ1) ∧ Q ρ1) ∨ ∃ ρ1 ρ2 k', c ρ = .ok (.v (.bool true), ρ1) ∧ (body ρ1 = .ok (.nxt ρ2) ∨ body ρ1 = .ok (.cnt ρ2)) ∧ k' < k ∧ I k' ρ2) :
    ∀ (n k : Nat) (ρ : Env), I k ρ → k < n → ∃ ρ', whileR c body n ρ = .ok (.nxt ρ') ∧ Q ρ'
  | 0, k, ρ, _, h => absurd h (Nat.not_lt_zero _)
  | n + 1, k, ρ, hI, h => by
    rcases step k ρ hI with ⟨ρ1, h1, h2⟩ | ⟨ρ1, ρ2, k', h1, h2, h3, h4⟩
    · refine ⟨ρ1, ?_, h2⟩
      simp only [whileR, h1, bnd_ok, isB, ofO_some, Bool.false_eq_true, if_false]
    · obtain ⟨ρ', e, hq⟩ := while_inv step n k' ρ2 h4 (by omega)
      refine ⟨ρ', ?_, hq⟩
      rcases h2 with h2 | h2 <;> simp only [whileR, h1, bnd_ok, isB, ofO_some, if_true, h2, e]
theorem find_congr {α : Type} {p q : α → Bool} : ∀ {l : List α}, (∀ x ∈ l, p x = q x) → l.find? p = l.find? q
  | [], _ => rfl
  | x :: l, h => by
    rw [List.find?_cons, List.find?_cons, h x List.mem_cons_self, find_congr fun y hy => h y (List.mem_cons_of_mem _ hy)]
theorem bind_t2 {i j : Nat} {a b : PyData} {ρ : Env} : bindTg (.t [i, j]) (.tuple [a, b]) ρ = if noMo ρ [i, j] = true then some ((ρ.set i (some (.v a))).set j (some (.v b))) else none := by
  show (if (noMo ρ [i, j] && true) = true then some ((ρ.set i (some (.v a))).set j (some (.v b))) else none) = _
  rw [Bool.and_true]
theorem bind_t3 {i j k : Nat} {a b c : PyData} {ρ : Env} : bindTg (.t [i, j, k]) (.tuple [a, b, c]) ρ = if noMo ρ [i, j, k] = true then some (((ρ.set i (some (.v a))).set j (some (.v b))).set k (some (.v c))) else none := by
  show (if (noMo ρ [i, j, k] && true) = true then some (((ρ.set i (some (.v a))).set j (some (.v b))).set k (some (.v c))) else none) = _
  rw [Bool.and_true]
theorem bind_l3 {i j k : Nat} {a b c : PyData} {ρ : Env} : bindTg (.t [i, j, k]) (.list [a, b, c]) ρ = if noMo ρ [i, j, k] = true then some (((ρ.set i (some (.v a))).set j (some (.v b))).set k (some (.v c))) else none := by
  show (if (noMo ρ [i, j, k] && true) = true then some (((ρ.set i (some (.v a))).set j (some (.v b))).set k (some (.v c))) else none) = _
  rw [Bool.and_true]
theorem bind_t4 {i j k l : Nat} {a b c d : PyData} {ρ : Env} : bindTg (.t [i, j, k, l]) (.tuple [a, b, c, d]) ρ = if noMo ρ [i, j, k, l] = true then some ((((ρ.set i (some (.v a))).set j (some (.v b))).set k (some (.v c))).set l (some (.v d))) else none := by
  show (if (noMo ρ [i, j, k, l] && true) = true then some ((((ρ.set i (some (.v a))).set j (some (.v b))).set k (some (.v c))).set l (some (.v d))) else none) = _
  rw [Bool.and_true]
theorem bind_t5 {i j k l m : Nat} {a b c d e : PyData} {ρ : Env} : bindTg (.t [i, j, k, l, m]) (.tuple [a, b, c, d, e]) ρ = if noMo ρ [i, j, k, l, m] = true then some (((((ρ.set i (some (.v a))).set j (some (.v b))).set k (some (.v c))).set l (some (.v d))).set m (some (.v e))) else none := by
  show (if (noMo ρ [i, j, k, l, m] && true) = true then some (((((ρ.set i (some (.v a))).set j (some (.v b))).set k (some (.v c))).set l (some (.v d))).set m (some (.v e))) else none) = _
  rw [Bool.and_true]
theorem atI_map {α β : Type} {f : α → β} {xs : List α} {k : Nat} (h : k < xs.length) : L2.atI (xs.map f) (k : Int) = some (f xs[k]) := by
  rw [atI_nat (by rw [List.length_map]; exact h)]; simp
theorem split_pos {R : Tab} {l : Nat} {k : Int} (h1 : ∀ p ∈ R.take l, p.1 < k) (h2 : ∀ p ∈ R.drop l, k ≤ p.1) :
    R.take l = (R.filter fun p => decide (p.1 < k)) ∧ R.drop l = R.filter fun p => decide (k ≤ p.1) := by
  have e : R = R.take l ++ R.drop l := (List.take_append_drop l R).symm
  constructor
  · have : (R.take l ++ R.drop l).filter (fun p => decide (p.1 < k)) = R.take l := by
      rw [List.filter_append, List.filter_eq_self.mpr (fun p hp => decide_eq_true (h1 p hp)), List.filter_eq_nil_iff.mpr (fun p hp => by have := h2 p hp; simp; omega), List.append_nil]
    rw [List.take_append_drop] at this
    exact this.symm
  · have : (R.take l ++ R.drop l).filter (fun p => decide (k ≤ p.1)) = R.drop l := by
      rw [List.filter_append, List.filter_eq_nil_iff.mpr (fun p hp => by have := h1 p hp; simp; omega), List.filter_eq_self.mpr (fun p hp => decide_eq_true (h2 p hp)), List.nil_append]
    rw [List.take_append_drop] at this
    exact this.symm
/-- the place of a key in sorted rows -/
structure PosOk (R : Tab) (k : Int) (l : Nat) : Prop where
  le : l ≤ R.length
  t : R.take l = R.filter fun p => decide (p.1 < k)
  d : R.drop l = R.filter fun p => decide (k ≤ p.1)
def hasR (R : Tab) (k : Int) : Bool := decide (k ∈ keysT R)
theorem look_has {R : Tab} {k : Int} : hasR R k = (lookT R k).isSome := by
  unfold hasR
  cases h : lookT R k with
  | none => rw [decide_eq_false (look_none.mp h)]; rfl
  | some v => rw [decide_eq_true (by
      have := look_mem h
      exact List.mem_map.mpr ⟨_, this, rfl⟩)]; rfl
theorem filter_ge {R : Tab} {k : Int} (h : Asc R) : (R.filter fun p => decide (k ≤ p.1)) = (match lookT R k with | some v => [(k, v)] | none => []) ++ R.filter fun p => decide (k < p.1) := by
  induction R with
  | nil => simp [lookT]
  | cons p R ih =>
    obtain ⟨h1, h2⟩ := List.pairwise_cons.mp h
    have ih := ih h2
    rw [look_cons, List.filter_cons, List.filter_cons]
    by_cases c : p.1 = k
    · subst c
      have hn : lookT R p.1 = none := look_none.mpr fun hm => by
        obtain ⟨q, hq, e⟩ := List.mem_map.mp hm
        have := h1 q hq; omega
      rw [hn] at ih
      rw [if_pos rfl, if_pos (by simp), if_neg (by simp), ih]
      rfl
    · rw [if_neg c]
      by_cases c2 : k < p.1
      · have hn : lookT R k = none := look_none.mpr fun hm => by
          obtain ⟨q, hq, e⟩ := List.mem_map.mp hm
          have := h1 q hq; omega
        rw [hn] at ih ⊢
        rw [if_pos (by simp; omega), if_pos (by simp; omega), ih]
        rfl
      · rw [if_neg (by simp; omega), if_neg (by simp; omega), ih]
theorem pos_has {R : Tab} {k : Int} {l : Nat} (hA : Asc R) (h : PosOk R k l) : (∃ hl : l < R.length, R[l].1 = k) ↔ hasR R k = true := by
  have e := h.d
  rw [filter_ge hA] at e
  rw [look_has]
  cases hv : lookT R k with
  | none =>
    rw [hv] at e
    refine ⟨fun ⟨hl, hk⟩ => ?_, fun h => by cases h⟩
    have h1 : R.drop l = R[l] :: R.drop (l + 1) := List.drop_eq_getElem_cons hl
    rw [h1] at e
    have h2 : R[l] ∈ R.filter fun p => decide (k < p.1) := by
      have e : R[l] :: R.drop (l + 1) = R.filter fun p => decide (k < p.1) := e
      rw [← e]; exact List.mem_cons_self
    have := (List.mem_filter.mp h2).2
    simp at this; omega
  | some v =>
    rw [hv] at e
    refine ⟨fun _ => rfl, fun _ => ?_⟩
    have hl : l < R.length := by
      refine Nat.lt_of_not_le fun hc => ?_
      rw [List.drop_eq_nil_of_le hc] at e
      cases e
    refine ⟨hl, ?_⟩
    rw [List.drop_eq_getElem_cons hl] at e
    have e : R[l] :: R.drop (l + 1) = (k, v) :: R.filter fun p => decide (k < p.1) := e
    rw [(List.cons.inj e).1]
theorem pos_look {R : Tab} {k : Int} {l : Nat} (hA : Asc R) (h : PosOk R k l) (hl : l < R.length) (hk : R[l].1 = k) : lookT R k = some R[l].2 ∧ R.drop (l + 1) = R.filter fun p => decide (k < p.1) := by
  have e := h.d
  rw [filter_ge hA, List.drop_eq_getElem_cons hl] at e
  cases hv : lookT R k with
  | none =>
    have : hasR R k = true := (pos_has hA h).mp ⟨hl, hk⟩
    rw [look_has, hv] at this; cases this
  | some v =>
    rw [hv] at e
    have e : R[l] :: R.drop (l + 1) = (k, v) :: R.filter fun p => decide (k < p.1) := e
    obtain ⟨e1, e2⟩ := List.cons.inj e
    rw [e1]
    exact ⟨rfl, e2⟩
theorem pos_none {R : Tab} {k : Int} {l : Nat} (hA : Asc R) (h : PosOk R k l) (hn : hasR R k = false) : lookT R k = none ∧ R.drop l = R.filter fun p => decide (k < p.1) := by
  have e := h.d
  rw [filter_ge hA] at e
  rw [look_has] at hn
  cases hv : lookT R k with
  | none => rw [hv] at e; exact ⟨rfl, e⟩
  | some v => rw [hv] at hn; cases hn
theorem pos_ins {R : Tab} {k v : Int} {l : Nat} (hA : Asc R) (h : PosOk R k l) : R.take l ++ [(k, v)] ++ R.drop (l + if hasR R k = true then 1 else 0) = insR R k v := by
  unfold insR
  rw [← h.t]
  cases hh : hasR R k with
  | true =>
    obtain ⟨hl, hk⟩ := (pos_has hA h).mpr hh
    rw [if_pos rfl, (pos_look hA h hl hk).2, List.append_assoc]; rfl
  | false =>
    rw [if_neg (by decide), Nat.add_zero, (pos_none hA h hh).2, List.append_assoc]; rfl
theorem drop_split {R : Tab} {k : Int} (h : Asc R) : (R.filter fun p => decide (p.1 < k)) ++ (R.filter fun p => decide (k < p.1)) = dropR R k := by
  refine asc_ext ?_ (asc_drop h) fun j => ?_
  · unfold Asc
    rw [List.pairwise_append]
    refine ⟨List.Pairwise.filter _ h, List.Pairwise.filter _ h, fun p hp q hq => ?_⟩
    have hp : p.1 < k := by simpa using (List.mem_filter.mp hp).2
    have hq : k < q.1 := by simpa using (List.mem_filter.mp hq).2
    omega
  · have e1 := look_filter (R := R) (f := fun i => decide (i < k)) (j := j)
    have e2 := look_filter (R := R) (f := fun i => decide (k < i)) (j := j)
    unfold dropR
    rw [look_append, e1, e2, look_dropT]
    by_cases c : j = k
    · subst c; simp
    · rw [if_neg c]
      by_cases c2 : j < k
      · have : ¬ k < j := by omega
        simp [c2, this]
      · have : k < j := by omega
        simp [c2, this]
theorem pos_drop {R : Tab} {k : Int} {l : Nat} (hA : Asc R) (h : PosOk R k l) : R.take l ++ R.drop (l + if hasR R k = true then 1 else 0) = dropR R k := by
  rw [← drop_split hA, ← h.t]
  cases hh : hasR R k with
  | true =>
    obtain ⟨hl, hk⟩ := (pos_has hA h).mpr hh
    rw [if_pos rfl, (pos_look hA h hl hk).2]
  | false => rw [if_neg (by decide), Nat.add_zero, (pos_none hA h hh).2]
theorem pos_next {R : Tab} {k : Int} {l : Nat} (h : PosOk R k l) : nextR R k = if hl : l < R.length then some R[l].1 else none := by
  have e : ((keysT R).filter fun j => decide (k ≤ j)) = keysT (R.drop l) := by
    rw [h.d]; unfold keysT; rw [List.filter_map]; rfl
  unfold nextR
  rw [e]
  split
  · rename_i hl
    rw [List.drop_eq_getElem_cons hl]; rfl
  · rename_i hl
    rw [List.drop_eq_nil_of_le (by omega)]; rfl
theorem get_take {R : Tab} {l : Nat} {p : Int × Int} (h : p ∈ R.take l) : ∃ (i : Nat) (h2 : i < R.length), i < l ∧ R[i] = p := by
  obtain ⟨i, hi, e⟩ := List.mem_iff_getElem.mp h
  rw [List.length_take] at hi
  exact ⟨i, by omega, by omega, by rw [← e, List.getElem_take]⟩
theorem get_drop {R : Tab} {l : Nat} {p : Int × Int} (h : p ∈ R.drop l) : ∃ (i : Nat) (h2 : i < R.length), l ≤ i ∧ R[i] = p := by
  obtain ⟨i, hi, e⟩ := List.mem_iff_getElem.mp h
  rw [List.length_drop] at hi
  exact ⟨l + i, by omega, by omega, by rw [← e, List.getElem_drop]⟩
theorem asc_get {R : Tab} (h : Asc R) {i j : Nat} (hi : i < R.length) (hj : j < R.length) (hij : i < j) : R[i].1 < R[j].1 := List.pairwise_iff_getElem.mp h i j hi hj hij
theorem nz_pair {L D : Nat} {p : Int × Int} (hL : 2 ≤ L) (h1 : in99 p.1) (h2 : in99 p.2) : nz L (D + 1) (pairD p) := by
  unfold in99 at h1 h2
  refine nz_ofT (by simpa using hL) fun x hx => ?_
  simp only [List.mem_cons, List.not_mem_nil, or_false] at hx
  rcases hx with rfl | rfl
  · simp only [nz]; omega
  · simp only [nz]; omega
theorem nz_rows {L D : Nat} {R : Tab} (hL : 40 ≤ L) (h : RowOk R) : nz L (D + 2) (.tuple (R.map pairD)) :=
  nz_ofT (by rw [List.length_map]; have := h.2.1; omega) fun x hx => by
    obtain ⟨p, hp, rfl⟩ := List.mem_map.mp hx
    have := h.2.2 p hp
    exact nz_pair (by omega) this.1 this.2
/-- pairs of whole numbers read as rows -/
theorem pairs_of {d : PyData} {lo hi : Int} (h : isRow d (some 2) lo hi = true) : ∃ p : Int × Int, d = pairD p ∧ (lo ≤ p.1 ∧ p.1 ≤ hi) ∧ lo ≤ p.2 ∧ p.2 ≤ hi := by
  cases d with
  | tuple xs =>
    simp only [isRow, lenB, Bool.and_eq_true, decide_eq_true_eq] at h
    obtain ⟨h1, h2⟩ := h
    match xs, h1, h2 with
    | [x, y], _, h2 =>
      simp only [List.all_cons, List.all_nil, Bool.and_true, Bool.and_eq_true] at h2
      obtain ⟨hx, hy⟩ := h2
      cases x with
      | int i =>
        cases y with
        | int j =>
          simp only [inRng, Bool.and_eq_true, decide_eq_true_eq] at hx hy
          exact ⟨(i, j), rfl, hx, hy⟩
        | _ => simp [inRng] at hy
      | _ => simp [inRng] at hx
    | [], h1, _ => simp at h1
    | [_], h1, _ => simp at h1
    | _ :: _ :: _ :: r, h1, _ => simp at h1; omega
  | _ => simp [isRow] at h
theorem rows_of : ∀ {xs : List PyData}, xs.all (fun x => isRow x (some 2) 0 99) = true → ∃ ps : Tab, xs = ps.map pairD ∧ ∀ p ∈ ps, in99 p.1 ∧ in99 p.2
  | [], _ => ⟨[], rfl, by simp⟩
  | x :: xs, h => by
    simp only [List.all_cons, Bool.and_eq_true] at h
    obtain ⟨p, rfl, hp⟩ := pairs_of h.1
    obtain ⟨ps, rfl, hps⟩ := rows_of h.2
    refine ⟨p :: ps, rfl, fun q hq => ?_⟩
    rcases List.mem_cons.mp hq with rfl | hq
    · exact hp
    · exact hps q hq
theorem ordP_asc {R : Tab} (h : Asc R) : ordP (keysT R) = none := by
  unfold ordP
  rw [List.find?_eq_none]
  intro i hi
  have hi := List.mem_range.mp hi
  have hl : (keysT R).length = R.length := by unfold keysT; rw [List.length_map]
  have g1 : (keysT R)[i]! = R[i].1 := by rw [getElem!_pos (keysT R) i (by omega)]; simp [keysT]
  have g2 : (keysT R)[i + 1]! = R[i + 1].1 := by rw [getElem!_pos (keysT R) (i + 1) (by omega)]; simp [keysT]
  rw [g1, g2]
  have := asc_get h (i := i) (j := i + 1) (by omega) (by omega) (by omega)
  simp; omega
end Rf

set_option Elab.async false
set_option linter.all false
set_option maxRecDepth 100000
set_option maxHeartbeats 1000000
namespace Rf
open PySem
/-! ### data that repr shows -/
mutual
def shB : PyData → Bool
  | .none => true
  | .bool _ => true
  | .int i => decide (i.natAbs < 10 ^ 12)
  | .str x => PyData.strOk x && PyData.strOk (PyData.str x).shown
  | .list xs => shBs xs
  | .tuple xs => shBs xs
  | .dict _ => false
def shBs : List PyData → Bool
  | [] => true
  | x :: xs => shB x && shBs xs
end
theorem shBs_iff {xs : List PyData} : shBs xs = true ↔ ∀ x ∈ xs, shB x = true := by
  induction xs with
  | nil => simp [shBs]
  | cons x xs ih => simp [shBs, ih]
mutual
theorem sh_lay : ∀ {d : PyData}, shB d = true → d.canLay0 = true ∧ d.showable = true ∧ d.intsShort 13 = true
  | .none, _ => ⟨rfl, rfl, rfl⟩
  | .bool _, _ => ⟨rfl, rfl, rfl⟩
  | .int i, h => by
    have h : i.natAbs < 10 ^ 12 := of_decide_eq_true (by simpa only [shB] using h)
    refine ⟨rfl, ?_, ?_⟩
    · simp only [PyData.showable, decide_eq_true_eq]
      by_cases c : i.natAbs = 0
      · rw [c]; decide
      · rw [Nat.log2_lt c]
        exact Nat.lt_trans h (Nat.lt_of_lt_of_le (show 10 ^ 12 < 2 ^ 40 by decide) (Nat.pow_le_pow_right (by decide) (by decide)))
    · simp only [PyData.intsShort, decide_eq_true_eq]
      exact PyData.shown_int_le h
  | .str x, h => by
    simp only [shB, Bool.and_eq_true] at h
    exact ⟨by simpa only [PyData.canLay0] using h.1, rfl, rfl⟩
  | .list xs, h => by
    have e := shs_lay (show shBs xs = true by simpa only [shB] using h)
    simpa only [PyData.canLay0, PyData.showable, PyData.intsShort] using e
  | .tuple xs, h => by
    have e := shs_lay (show shBs xs = true by simpa only [shB] using h)
    simpa only [PyData.canLay0, PyData.showable, PyData.intsShort] using e
  | .dict _, h => by simp [shB] at h
theorem shs_lay : ∀ {xs : List PyData}, shBs xs = true → PyData.canLayAll0 xs = true ∧ PyData.showableAll xs = true ∧ PyData.intsShortAll 13 xs = true
  | [], _ => ⟨rfl, rfl, rfl⟩
  | x :: xs, h => by
    have h := Bool.and_eq_true_iff.mp (show (shB x && shBs xs) = true by simpa only [shBs] using h)
    have e1 := sh_lay h.1
    have e2 := shs_lay h.2
    simp only [PyData.canLayAll0, PyData.showableAll, PyData.intsShortAll, e1, e2, Bool.and_self, and_self]
end
def fitS (x : Str) : Prop := ∀ c ∈ x.cps.toList, c < 0x110000
theorem fitS_ok {x : Str} : PyData.strOk x = true ↔ fitS x := by
  show x.cps.all (· < 0x110000) = true ↔ _
  rw [← Array.all_toList, List.all_eq_true]
  exact ⟨fun h c hc => by simpa using h c hc, fun h c hc => by simpa using h c hc⟩
theorem fitS_app {x y : Str} (h : fitS x) (h2 : fitS y) : fitS (x ++ y) := fun c hc => (PyProof.Rows.mem_cps_append.mp hc).elim (h c) (h2 c)
theorem fitS_lit {s : String} (h : ((Str.ofString s).cps.toList.all fun c => decide (c < 0x110000)) = true) : fitS (Str.ofString s) := fun c hc => by simpa using List.all_eq_true.mp h c hc
theorem fitS_join {ts : List Str} (h : ∀ t ∈ ts, fitS t) : fitS (Str.join ", " ts) := fun c hc => by
  rcases (PyProof.Rows.mem_join _ c ts).mp hc with ⟨t, ht, hc⟩ | ⟨_, hc⟩
  · exact h t ht c hc
  · rw [PyProof.Rows.signs_sep] at hc
    simp only [List.mem_cons, List.not_mem_nil, or_false] at hc
    omega
theorem fitS_from : ∀ (ts : List Str) (k : Nat) (acc : Str), fitS acc → (∀ t ∈ ts, fitS t) → fitS (textFrom k acc ts)
  | [], _, acc, h, _ => h
  | t :: ts, k, acc, h, ht => by
    have l1 : fitS (", " : String) := fitS_lit (by decide)
    have l2 : fitS ("" : String) := fitS_lit (by decide)
    unfold textFrom
    refine fitS_from ts _ _ ?_ fun t h => ht t (List.mem_cons_of_mem _ h)
    first
      | exact fitS_app (fitS_app h (by split <;> assumption)) (ht t List.mem_cons_self)
      | (split <;> first | exact fitS_app h (ht t List.mem_cons_self) | exact fitS_app (fitS_app h l1) (ht t List.mem_cons_self))
mutual
theorem sh_fit : ∀ {d : PyData}, shB d = true → fitS d.shown
  | .none, _ => fitS_lit (s := "None") (by decide)
  | .bool b, _ => by
    cases b
    · exact fitS_lit (s := "False") (by decide)
    · exact fitS_lit (s := "True") (by decide)
  | .int i, _ => fun c hc => by
    refine Nat.lt_of_not_le fun hn => ?_
    exact PyProof.Rows.shown_int_free' (k := c) ⟨by omega, by omega⟩ i hc
  | .str x, h => by
    simp only [shB, Bool.and_eq_true] at h
    exact fitS_ok.mp h.2
  | .list xs, h => by
    have e := shs_fit (show shBs xs = true by simpa only [shB] using h)
    show fitS (listText (PyData.shownAll xs))
    unfold listText
    exact fitS_app (fitS_from _ _ _ (fitS_lit (s := "[") (by decide)) e) (fitS_lit (s := "]") (by decide))
  | .tuple xs, h => by
    have e := shs_fit (show shBs xs = true by simpa only [shB] using h)
    show fitS (tupleText (PyData.shownAll xs))
    unfold tupleText
    refine fitS_app (fitS_app (fitS_lit (s := "(") (by decide)) (fitS_join e)) ?_
    split
    · exact fitS_lit (s := ",)") (by decide)
    · exact fitS_lit (s := ")") (by decide)
  | .dict _, h => by simp [shB] at h
theorem shs_fit : ∀ {xs : List PyData}, shBs xs = true → ∀ t ∈ PyData.shownAll xs, fitS t
  | [], _, t, ht => by simp [PyData.shownAll] at ht
  | x :: xs, h, t, ht => by
    have h := Bool.and_eq_true_iff.mp (show (shB x && shBs xs) = true by simpa only [shBs] using h)
    rw [PyData.shownAll, List.mem_cons] at ht
    rcases ht with e | ht
    · rw [e]; exact sh_fit h.1
    · exact shs_fit h.2 t ht
end
/-- data whose repr the machine makes -/
def ShOk (d : PyData) : Prop := shB d = true ∧ d.depth ≤ 64 ∧ d.weight ≤ 1048576
theorem sh_len {d : PyData} (h : ShOk d) : d.shown.length ≤ 15728653 := by
  have h1 := sh_lay h.1
  have h2 := PyData.shown_le 13 (by decide) d (PyData.leavesShort_of_canLay0 13 d h1.1 h1.2.2)
  have := h.2.2
  omega
theorem pl_repr_ok {d : PyData} (h : ShOk d) : primD .repr [d] = some (.v (.str d.shown)) := by
  have h1 := sh_lay h.1
  have hz : lim = 16777216 := rfl
  rw [o_p_repr, if_pos ⟨h1.2.1, by have := sh_len h; omega, PyData.hasDict_of_canLay d h1.1, by have := h.2.1; omega⟩]
theorem pl_repr_eq {d : PyData} (h : ShOk d) : cmpD .ne (.str d.shown) (.str d.shown) = some false := by
  have e := fitS_ok.mpr (sh_fit h.1)
  rw [ne_ss e e, beq_self_eq_true]; rfl
theorem weight_small {i : Int} (h : in99 i) : (PyData.int i).weight ≤ 8 := by
  unfold in99 at h
  simp only [PyData.weight]
  split
  · omega
  · rename_i hi
    have : i.natAbs ≠ 0 := by
      intro c
      have : i = 0 := by omega
      rw [this] at hi; exact hi rfl
    have h3 := (Nat.log2_lt this (k := 7)).mpr (by omega)
    omega
theorem sh_int {i : Int} (h : in99 i) : shB (.int i) = true := by
  unfold in99 at h
  simp only [shB, decide_eq_true_eq]
  have : (10 : Nat) ^ 12 = 1000000000000 := by decide
  omega
theorem sh_pair {p : Int × Int} (h1 : in99 p.1) (h2 : in99 p.2) : shB (pairD p) = true ∧ (pairD p).depth = 1 ∧ (pairD p).weight ≤ 18 := by
  have a := sh_int h1
  have b := sh_int h2
  refine ⟨by show (shB (.int p.1) && (shB (.int p.2) && true)) = true; rw [a, b]; rfl, rfl, ?_⟩
  have := weight_small h1
  have := weight_small h2
  have e : (pairD p).weight = (PyData.int p.1).weight + 1 + ((PyData.int p.2).weight + 1 + 0) := by
    simp only [pairD]
    rw [PyData.weight, PyData.weightAll, PyData.weightAll, PyData.weightAll]
  omega
theorem weightAll_le {k : Nat} : ∀ {xs : List PyData}, (∀ x ∈ xs, x.weight ≤ k) → PyData.weightAll xs ≤ xs.length * (k + 1)
  | [], _ => by simp [PyData.weightAll]
  | x :: xs, h => by
    have e := weightAll_le (xs := xs) fun y hy => h y (List.mem_cons_of_mem _ hy)
    have := h x List.mem_cons_self
    rw [PyData.weightAll, List.length_cons, Nat.add_mul]
    omega
theorem sh_pairs_w {R : Tab} (hl : R.length ≤ 40) (h : ∀ p ∈ R, in99 p.1 ∧ in99 p.2) : (PyData.tuple (R.map pairD)).depth ≤ 2 ∧ (PyData.tuple (R.map pairD)).weight ≤ 760 := by
  have hp : ∀ x ∈ R.map pairD, shB x = true ∧ x.depth = 1 ∧ x.weight ≤ 18 := fun x hx => by
    obtain ⟨p, hp, rfl⟩ := List.mem_map.mp hx
    exact sh_pair (h p hp).1 (h p hp).2
  refine ⟨?_, ?_⟩
  · have : PyData.depthAll (R.map pairD) ≤ 1 := depthAll_le.mpr fun x hx => by rw [(hp x hx).2.1]; exact Nat.le_refl _
    simp only [PyData.depth]; omega
  · have e := weightAll_le (k := 18) fun x hx => (hp x hx).2.2
    rw [List.length_map] at e
    rw [PyData.weight]; omega
theorem sh_pairs {R : Tab} (hl : R.length ≤ 40) (h : ∀ p ∈ R, in99 p.1 ∧ in99 p.2) : ShOk (.tuple (R.map pairD)) := by
  have hp : ∀ x ∈ R.map pairD, shB x = true ∧ x.depth = 1 ∧ x.weight ≤ 18 := fun x hx => by
    obtain ⟨p, hp, rfl⟩ := List.mem_map.mp hx
    exact sh_pair (h p hp).1 (h p hp).2
  refine ⟨?_, ?_, ?_⟩
  · simp only [shB]; exact shBs_iff.mpr fun x hx => (hp x hx).1
  · have : PyData.depthAll (R.map pairD) ≤ 1 := depthAll_le.mpr fun x hx => by rw [(hp x hx).2.1]; exact Nat.le_refl _
    simp only [PyData.depth]; omega
  · have e := weightAll_le (k := 18) fun x hx => (hp x hx).2.2
    rw [List.length_map] at e
    rw [PyData.weight]; omega
theorem sh_rows {R : Tab} (h : RowOk R) : ShOk (.tuple (R.map pairD)) := sh_pairs h.2.1 h.2.2
theorem nz_pairs {L D : Nat} {R : Tab} (hL : 40 ≤ L) (hl : R.length ≤ 40) (h : ∀ p ∈ R, in99 p.1 ∧ in99 p.2) : nz L (D + 2) (.tuple (R.map pairD)) :=
  nz_ofT (by rw [List.length_map]; omega) fun x hx => by
    obtain ⟨p, hp, rfl⟩ := List.mem_map.mp hx
    exact nz_pair (by omega) (h p hp).1 (h p hp).2
def firstD (fs : List (PyData × PyData)) : PyData := match fs.find? fun p => !isNonD p.2 with
  | none => .none
  | some p => .tuple [p.1, p.2]
def faD (p : PyData × PyData) : PyData := .tuple [p.1, p.2]
theorem nz_firstD {L D : Nat} {fs : List (PyData × PyData)} (hL : 2 ≤ L) (h : ∀ p ∈ fs, nz L D p.1 ∧ nz L D p.2) : nz L (D + 1) (firstD fs) := by
  unfold firstD
  cases hf : fs.find? (fun p => !isNonD p.2) with
  | none => simp [nz]
  | some p =>
    have hp := h p (List.mem_of_find?_eq_some hf)
    exact nz_ofT (by simpa using hL) fun x hx => by
      simp only [List.mem_cons, List.not_mem_nil, or_false] at hx
      rcases hx with rfl | rfl
      · exact hp.1
      · exact hp.2
theorem nz_str {L D : Nat} {x : Str} (h : nzb 10 0 (.str x) = true) (hL : 10 ≤ L) : nz L D (.str x) := nz_mono hL (Nat.zero_le _) (nzb_ok h)
theorem nz_optD {L D : Nat} {o : Option Nat} (h : ∀ k, o = some k → k ≤ 1000 * L) : nz L D (optD o) := by
  cases o with
  | none => simp [optD, nz]
  | some k => have := h k rfl; simp only [optD, nz]; omega
theorem nz_optI {L D : Nat} {o : Option Int} (h : ∀ k, o = some k → k.natAbs ≤ 1000 * L) : nz L D (optI o) := by
  cases o with
  | none => simp [optI, nz]
  | some k => have := h k rfl; simp only [optI, nz]; omega
theorem ordP_lt {ks : List Int} {k : Nat} (h : ordP ks = some k) : k < ks.length := by
  have := List.mem_range.mp (List.mem_of_find?_eq_some h); omega
theorem look_in99 {R : Tab} (h : RowOk R) {k v : Int} (hv : lookT R k = some v) : in99 v := (h.2.2 _ (look_mem hv)).2
theorem next_in99 {R : Tab} (h : RowOk R) {k v : Int} (hv : nextR R k = some v) : in99 v := by
  unfold nextR at hv
  have h1 := (List.mem_filter.mp (List.mem_of_mem_head? (by rw [hv]; rfl))).1
  obtain ⟨p, hp, rfl⟩ := List.mem_map.mp h1
  exact (h.2.2 p hp).1
theorem nz_small3 {L D : Nat} {a b c : Option Int} (hL : 10 ≤ L) (h1 : ∀ k, a = some k → in99 k) (h2 : ∀ k, b = some k → in99 k) (h3 : ∀ k, c = some k → in99 k) : nz L (D + 1) (.list [optI a, optI b, optI c]) := by
  have aux : ∀ {o : Option Int}, (∀ k, o = some k → in99 k) → nz L D (optI o) := fun h => nz_optI fun k hk => by
    have := h k hk
    unfold in99 at this; omega
  refine nz_ofL (by simp; omega) fun x hx => ?_
  simp only [List.mem_cons, List.not_mem_nil, or_false] at hx
  rcases hx with rfl | rfl | rfl
  · exact aux h1
  · exact aux h2
  · exact aux h3
theorem eq_pp : cmpD .eq (.str (Str.ofString "put")) (.str (Str.ofString "put")) = some true := by
  rw [eq_ss (by decide +kernel) (by decide +kernel)]
  congr 1
theorem eq_dp : cmpD .eq (.str (Str.ofString "drop")) (.str (Str.ofString "put")) = some false := by
  rw [eq_ss (by decide +kernel) (by decide +kernel)]
  congr 1
/-- what the law hands to a reading: small data, or a dict -/
def Odd (L D : Nat) (d : PyData) : Prop := nz L D d ∨ ∃ ks, d = .dict ks
theorem odd_mono {L D L' D' : Nat} (hL : L ≤ L') (hD : D ≤ D') {d : PyData} (h : Odd L D d) : Odd L' D' d := h.imp (nz_mono hL hD) id
theorem odd_tl {L D : Nat} {d : PyData} (h : Odd L D d) : tl d ≤ L := by
  rcases h with h | ⟨ks, rfl⟩
  · exact tl_nz h
  · exact Nat.zero_le _
theorem odd_el {L D : Nat} {d : PyData} (h : Odd L D d) : ∀ xs, d = .tuple xs → ∀ x ∈ xs, tl x ≤ L := fun xs e x hx => by
  rcases h with h | ⟨ks, e2⟩
  · subst e
    obtain ⟨_, D', _, hx'⟩ := nz_tup h
    exact tl_nz (hx' x hx)
  · rw [e] at e2; cases e2
mutual
theorem eqvAll_self : ∀ {xs : List PyData}, PyData.canLayAll0 xs = true → PyData.eqvAll xs xs = true
  | [], _ => by simp [PyData.eqvAll]
  | x :: xs, h => by
    have h := Bool.and_eq_true_iff.mp (show (x.canLay0 && PyData.canLayAll0 xs) = true by simpa only [PyData.canLayAll0] using h)
    simp only [PyData.eqvAll, eqv_self h.1, eqvAll_self h.2, Bool.and_self]
theorem eqv_self : ∀ {x : PyData}, x.canLay0 = true → PyData.eqv x x = true
  | .none, _ => by simp [PyData.eqv]
  | .bool _, _ => by simp [PyData.eqv]
  | .int _, _ => by simp [PyData.eqv]
  | .str _, _ => by simp [PyData.eqv]
  | .list xs, h => by simp only [PyData.eqv]; exact eqvAll_self (by simpa only [PyData.canLay0] using h)
  | .tuple xs, h => by simp only [PyData.eqv]; exact eqvAll_self (by simpa only [PyData.canLay0] using h)
  | .dict _, h => by simp [PyData.canLay0] at h
end
theorem eqv_refl {L D : Nat} {d : PyData} (h : nz L D d) : PyData.eqv d d = true := eqv_self (nz_lay h).1
theorem ne_same {L D : Nat} {d : PyData} (h : nz L D d) (hD : D ≤ 150) : cmpD .ne d d = some false := by
  have e := nz_lay h
  rw [ne_of_lay e.1 e.1 (by omega), eqv_refl h]; rfl
theorem while_ret {c : Env → Res (RV × Env)} {body : EvS} {I : Nat → Env → Prop} {Q : Env → Prop} {J : RV → Env → Prop}
    (step : ∀ k ρ, I k ρ → (∃ ρ1, c ρ = .ok (.v (.bool false), ρ1) ∧ Q ρ1) ∨ ∃ ρ1, c ρ = .ok (.v (.bool true), ρ1) ∧ ((∃ ρ2 k', (body ρ1 = .ok (.nxt ρ2) ∨ body ρ1 = .ok (.cnt ρ2)) ∧ k' < k ∧ I k' ρ2) ∨ ∃ r ρ2, body ρ1 = .ok (.ret r ρ2) ∧ J r ρ2)) :
    ∀ (n k : Nat) (ρ : Env), I k ρ → k < n → (∃ ρ', whileR c body n ρ = .ok (.nxt ρ') ∧ Q ρ') ∨ ∃ r ρ', whileR c body n ρ = .ok (.ret r ρ') ∧ J r ρ'
  | 0, k, ρ, _, h => absurd h (Nat.not_lt_zero _)
  | n + 1, k, ρ, hI, h => by
    rcases step k ρ hI with ⟨ρ1, h1, h2⟩ | ⟨ρ1, h1, ⟨ρ2, k', h2, h3, h4⟩ | ⟨r, ρ2, h2, h3⟩⟩
    · refine .inl ⟨ρ1, ?_, h2⟩
      simp only [whileR, h1, bnd_ok, isB, ofO_some, Bool.false_eq_true, if_false]
    · rcases while_ret step n k' ρ2 h4 (by omega) with ⟨ρ', e, hq⟩ | ⟨r, ρ', e, hq⟩
      · refine .inl ⟨ρ', ?_, hq⟩
        rcases h2 with h2 | h2 <;> simp only [whileR, h1, bnd_ok, isB, ofO_some, if_true, h2, e]
      · refine .inr ⟨r, ρ', ?_, hq⟩
        rcases h2 with h2 | h2 <;> simp only [whileR, h1, bnd_ok, isB, ofO_some, if_true, h2, e]
    · refine .inr ⟨r, ρ2, ?_, h3⟩
      simp only [whileR, h1, bnd_ok, isB, ofO_some, if_true, h2]
/-! ### sizes of data -/
mutual
def sz : PyData → Nat
  | .list xs => szs xs + 1
  | .tuple xs => szs xs + 1
  | _ => 1
def szs : List PyData → Nat
  | [] => 0
  | x :: xs => sz x + szs xs
end
theorem szs_app : ∀ {a b : List PyData}, szs (a ++ b) = szs a + szs b
  | [], b => by simp [szs]
  | x :: a, b => by simp only [List.cons_append, szs, szs_app]; omega
theorem szs_split {xs : List PyData} (i : Nat) : szs (xs.take i) + szs (xs.drop i) = szs xs := by rw [← szs_app, List.take_append_drop]
theorem szs_at {xs : List PyData} {i : Nat} (h : i < xs.length) : szs (xs.take i) + sz xs[i] + szs (xs.drop (i + 1)) = szs xs := by
  have e := szs_split (xs := xs) i
  rw [List.drop_eq_getElem_cons h, szs] at e
  omega
theorem szs_get {xs : List PyData} {i : Nat} (h : i < xs.length) : sz xs[i] ≤ szs xs := by have := szs_at h; omega
theorem szs_mem {xs : List PyData} {x : PyData} (h : x ∈ xs) : sz x ≤ szs xs := by
  obtain ⟨i, hi, rfl⟩ := List.mem_iff_getElem.mp h
  exact szs_get hi
theorem szs_set : ∀ {xs : List PyData} {i : Nat} {a : PyData}, szs (xs.set i a) ≤ szs xs + sz a
  | [], _, _ => by simp [szs]
  | x :: xs, 0, a => by simp only [List.set_cons_zero, szs]; omega
  | x :: xs, i + 1, a => by
    have := szs_set (xs := xs) (i := i) (a := a)
    simp only [List.set_cons_succ, szs]; omega
theorem szs_rev : ∀ {xs : List PyData}, szs xs.reverse = szs xs
  | [] => rfl
  | x :: xs => by rw [List.reverse_cons, szs_app, szs_rev]; simp only [szs]; omega
theorem szs_drop {xs : List PyData} {i : Nat} : szs (xs.drop i) ≤ szs xs := by have := szs_split (xs := xs) i; omega
theorem szs_take {xs : List PyData} {i : Nat} : szs (xs.take i) ≤ szs xs := by have := szs_split (xs := xs) i; omega
theorem szs_map {f : PyData → PyData} : ∀ {xs : List PyData}, (∀ x ∈ xs, sz (f x) ≤ sz x) → szs (xs.map f) ≤ szs xs
  | [], _ => Nat.le_refl _
  | x :: xs, h => by
    have := szs_map (f := f) (xs := xs) fun y hy => h y (List.mem_cons_of_mem _ hy)
    have := h x List.mem_cons_self
    simp only [List.map_cons, szs]; omega
theorem sz_pos : ∀ {d : PyData}, 1 ≤ sz d
  | .list xs => by simp [sz]
  | .tuple xs => by simp [sz]
  | .none => by simp [sz]
  | .bool _ => by simp [sz]
  | .int _ => by simp [sz]
  | .str _ => by simp [sz]
  | .dict _ => by simp [sz]
theorem szs_len : ∀ {xs : List PyData}, xs.length ≤ szs xs
  | [] => Nat.le_refl _
  | x :: xs => by
    have := szs_len (xs := xs)
    have := sz_pos (d := x)
    simp only [List.length_cons, szs]; omega
theorem szs_const {k : Nat} : ∀ {xs : List PyData}, (∀ x ∈ xs, sz x ≤ k) → szs xs ≤ k * xs.length
  | [], _ => by simp [szs]
  | x :: xs, h => by
    have := szs_const (xs := xs) fun y hy => h y (List.mem_cons_of_mem _ hy)
    have := h x List.mem_cons_self
    rw [szs, List.length_cons, Nat.mul_add]; omega
end Rf

set_option Elab.async false
set_option linter.all false
set_option maxRecDepth 100000
set_option maxHeartbeats 1000000
namespace Rf
open PySem
/-! the rows in bundles -/
theorem ro_0 : (type_of% @m_var) ∧ (type_of% @q_ev_2) ∧ (type_of% @q_ev_3) ∧ (type_of% @q_ev_4) ∧ (type_of% @q_ev_5) ∧ (type_of% @q_ev_6) ∧ (type_of% @m_tup) ∧ (type_of% @m_lst) ∧ (type_of% @q_ev_9) ∧ (type_of% @m_dic1) ∧ (type_of% @m_bin) ∧ (type_of% @m_neg) ∧ (type_of% @m_not) ∧ (type_of% @m_and) ∧ (type_of% @m_or) ∧ (type_of% @m_ife) := ⟨@m_var, @q_ev_2, @q_ev_3, @q_ev_4, @q_ev_5, @q_ev_6, @m_tup, @m_lst, @q_ev_9, @m_dic1, @m_bin, @m_neg, @m_not, @m_and, @m_or, @m_ife⟩
theorem ro_1 : (type_of% @m_cmp) ∧ (type_of% @m_chn) ∧ (type_of% @m_isn) ∧ (type_of% @m_nis) ∧ (type_of% @m_idx) ∧ (type_of% @m_slc) ∧ (type_of% @m_rev) ∧ (type_of% @m_call) ∧ (type_of% @m_prm) ∧ (type_of% @m_isi) ∧ (type_of% @m_met) ∧ (type_of% @m_comp) ∧ (type_of% @m_compD) ∧ (type_of% @m_comp2) ∧ (type_of% @m_k0) ∧ (type_of% @m_k1) ∧ (type_of% @m_a0) := ⟨@m_cmp, @m_chn, @m_isn, @m_nis, @m_idx, @m_slc, @m_rev, @m_call, @m_prm, @m_isi, @m_met, @m_comp, @m_compD, @m_comp2, @m_k0, @m_k1, @m_a0⟩
theorem ro_2 : (type_of% @m_a1) ∧ (type_of% @m_o0) ∧ (type_of% @m_o1) ∧ (type_of% @m_c0) ∧ (type_of% @m_c1) ∧ (type_of% @m_ie) ∧ (type_of% @m_r1) ∧ (type_of% @m_r2) ∧ (type_of% @m_r3) ∧ (type_of% @m_set) ∧ (type_of% @m_own) ∧ (type_of% @m_par) ∧ (type_of% @m_tpl) ∧ (type_of% @m_sit) ∧ (type_of% @m_swp) ∧ (type_of% @m_aug) := ⟨@m_a1, @m_o0, @m_o1, @m_c0, @m_c1, @m_ie, @m_r1, @m_r2, @m_r3, @m_set, @m_own, @m_par, @m_tpl, @m_sit, @m_swp, @m_aug⟩
theorem ro_3 : (type_of% @m_exp) ∧ (type_of% @m_iff) ∧ (type_of% @m_for) ∧ (type_of% @m_whl) ∧ (type_of% @m_ret) ∧ (type_of% @m_retN) ∧ (type_of% @m_brk) ∧ (type_of% @m_cnt) ∧ (type_of% @m_pss) ∧ (type_of% @m_ss0) ∧ (type_of% @m_ss1) ∧ (type_of% @bk_ok) ∧ (type_of% @bk_bad) ∧ (type_of% @bk2_ok) ∧ (type_of% @seqF_nxt) ∧ (type_of% @seqF_ret) := ⟨@m_exp, @m_iff, @m_for, @m_whl, @m_ret, @m_retN, @m_brk, @m_cnt, @m_pss, @m_ss0, @m_ss1, @bk_ok, @bk_bad, @bk2_ok, @seqF_nxt, @seqF_ret⟩
theorem ro_4 : (type_of% @seqF_brk) ∧ (type_of% @seqF_cnt) ∧ (type_of% @varR_v) ∧ (type_of% @varR_m) ∧ (type_of% @varR_p) ∧ (type_of% @callR_v) ∧ (type_of% @callR_m) ∧ (type_of% @revR_l) ∧ (type_of% @ownS_m) ∧ (type_of% @mvR_m) ∧ (type_of% @retS_v) ∧ (type_of% @retS_m) ∧ (type_of% @retS_b) ∧ (type_of% @cdR_d) ∧ (type_of% @augS_v) ∧ (type_of% @finR_ret) := ⟨@seqF_brk, @seqF_cnt, @varR_v, @varR_m, @varR_p, @callR_v, @callR_m, @revR_l, @ownS_m, @mvR_m, @retS_v, @retS_m, @retS_b, @cdR_d, @augS_v, @finR_ret⟩
theorem ro_5 : (type_of% @finR_nxt) ∧ (type_of% @finX_ok) ∧ (type_of% @m_run) ∧ (type_of% @slot_0) ∧ (type_of% @set_0) ∧ (type_of% @rep_0) ∧ (type_of% @slot_1) ∧ (type_of% @set_1) ∧ (type_of% @rep_1) ∧ (type_of% @slot_2) ∧ (type_of% @set_2) ∧ (type_of% @rep_2) ∧ (type_of% @slot_3) ∧ (type_of% @set_3) ∧ (type_of% @rep_3) ∧ (type_of% @slot_4) := ⟨@finR_nxt, @finX_ok, @m_run, @slot_0, @set_0, @rep_0, @slot_1, @set_1, @rep_1, @slot_2, @set_2, @rep_2, @slot_3, @set_3, @rep_3, @slot_4⟩
theorem ro_6 : (type_of% @set_4) ∧ (type_of% @rep_4) ∧ (type_of% @slot_5) ∧ (type_of% @set_5) ∧ (type_of% @rep_5) ∧ (type_of% @slot_6) ∧ (type_of% @set_6) ∧ (type_of% @rep_6) ∧ (type_of% @slot_7) ∧ (type_of% @set_7) ∧ (type_of% @rep_7) ∧ (type_of% @slot_8) ∧ (type_of% @set_8) ∧ (type_of% @rep_8) ∧ (type_of% @slot_9) ∧ (type_of% @set_9) := ⟨@set_4, @rep_4, @slot_5, @set_5, @rep_5, @slot_6, @set_6, @rep_6, @slot_7, @set_7, @rep_7, @slot_8, @set_8, @rep_8, @slot_9, @set_9⟩
theorem ro_7 : (type_of% @rep_9) ∧ (type_of% @slot_10) ∧ (type_of% @set_10) ∧ (type_of% @rep_10) ∧ (type_of% @slot_11) ∧ (type_of% @set_11) ∧ (type_of% @rep_11) ∧ (type_of% @slot_12) ∧ (type_of% @set_12) ∧ (type_of% @rep_12) ∧ (type_of% @slot_13) ∧ (type_of% @set_13) ∧ (type_of% @rep_13) ∧ (type_of% @slot_14) ∧ (type_of% @set_14) ∧ (type_of% @rep_14) := ⟨@rep_9, @slot_10, @set_10, @rep_10, @slot_11, @set_11, @rep_11, @slot_12, @set_12, @rep_12, @slot_13, @set_13, @rep_13, @slot_14, @set_14, @rep_14⟩
theorem ro_8 : (type_of% @slot_15) ∧ (type_of% @set_15) ∧ (type_of% @rep_15) ∧ (type_of% @slot_16) ∧ (type_of% @set_16) ∧ (type_of% @rep_16) ∧ (type_of% @slot_17) ∧ (type_of% @set_17) ∧ (type_of% @rep_17) ∧ (type_of% @slot_18) ∧ (type_of% @set_18) ∧ (type_of% @rep_18) ∧ (type_of% @slot_19) ∧ (type_of% @set_19) ∧ (type_of% @rep_19) ∧ (type_of% @nod_0) := ⟨@slot_15, @set_15, @rep_15, @slot_16, @set_16, @rep_16, @slot_17, @set_17, @rep_17, @slot_18, @set_18, @rep_18, @slot_19, @set_19, @rep_19, @nod_0⟩
theorem ro_9 : (type_of% @nod_1) ∧ (type_of% @nod_2) ∧ (type_of% @mapM_0) ∧ (type_of% @mapM_c) ∧ (type_of% @own_u) ∧ (type_of% @mo_v) ∧ (type_of% @mo_m) ∧ (type_of% @mo_p) ∧ (type_of% @put_m) ∧ (type_of% @put_p) ∧ (type_of% @chg_u) ∧ (type_of% @bind_n') ∧ (type_of% @noMo_0) ∧ (type_of% @noMo_c) ∧ (type_of% @isNone_n) ∧ (type_of% @isNone_s) := ⟨@nod_1, @nod_2, @mapM_0, @mapM_c, @own_u, @mo_v, @mo_m, @mo_p, @put_m, @put_p, @chg_u, @bind_n', @noMo_0, @noMo_c, @isNone_n, @isNone_s⟩
theorem ro_10 : (type_of% @wipe_1) ∧ (type_of% @wipe_2) ∧ (type_of% @unwipe_1) ∧ (type_of% @unwipe_2) ∧ (type_of% @outs_0) ∧ (type_of% @outs_v) ∧ (type_of% @outs_p) ∧ (type_of% @map_some') ∧ (type_of% @map_none') ∧ (type_of% @bind_some') ∧ (type_of% @bind_none') ∧ (type_of% @argIn_v) ∧ (type_of% @argIn_m) ∧ (type_of% @argIn_b') ∧ (type_of% @argsIn_0) ∧ (type_of% @argsIn_c) := ⟨@wipe_1, @wipe_2, @unwipe_1, @unwipe_2, @outs_0, @outs_v, @outs_p, @map_some', @map_none', @bind_some', @bind_none', @argIn_v, @argIn_m, @argIn_b', @argsIn_0, @argsIn_c⟩
theorem ro_11 : (type_of% @refs_0) ∧ (type_of% @refs_v) ∧ (type_of% @refs_m) ∧ (type_of% @refs_b) ∧ (type_of% @backs_0) ∧ (type_of% @backs_c) ∧ (type_of% @look_v) ∧ (type_of% @look_m) ∧ (type_of% @look_b') ∧ (type_of% @keep_v) ∧ (type_of% @keep_m) ∧ (type_of% @keep_b') ∧ (type_of% @data_l) ∧ (type_of% @isB_b) ∧ (type_of% @asInt_i) ∧ (type_of% @setD_0) := ⟨@refs_0, @refs_v, @refs_m, @refs_b, @backs_0, @backs_c, @look_v, @look_m, @look_b', @keep_v, @keep_m, @keep_b', @data_l, @isB_b, @asInt_i, @setD_0⟩
theorem ro_12 : (type_of% @setD_1) ∧ (type_of% @setD_2) ∧ (type_of% @setD_3) ∧ (type_of% @setD_4) ∧ (type_of% @setD_5) ∧ (type_of% @cmp_lt) ∧ (type_of% @cmp_le) ∧ (type_of% @cmp_gt) ∧ (type_of% @cmp_ge) ∧ (type_of% @atI_0) ∧ (type_of% @atI_1) ∧ (type_of% @atI_2) ∧ (type_of% @atI_3) ∧ (type_of% @atI_4) ∧ (type_of% @atI_5) ∧ (type_of% @atI_6) := ⟨@setD_1, @setD_2, @setD_3, @setD_4, @setD_5, @cmp_lt, @cmp_le, @cmp_gt, @cmp_ge, @atI_0, @atI_1, @atI_2, @atI_3, @atI_4, @atI_5, @atI_6⟩
theorem ro_13 : (type_of% @atI_7) ∧ (type_of% @atI_8) ∧ (type_of% @atI_9) ∧ (type_of% @cast_0) ∧ (type_of% @cast_1) ∧ (type_of% @cast_2) ∧ (type_of% @cast_3) ∧ (type_of% @cast_4) ∧ (type_of% @cast_5) ∧ (type_of% @cast_6) ∧ (type_of% @cast_7) ∧ (type_of% @cast_8) ∧ (type_of% @cast_9) ∧ (type_of% @cast_10) ∧ (type_of% @lim_0) ∧ (type_of% @lim_1) := ⟨@atI_7, @atI_8, @atI_9, @cast_0, @cast_1, @cast_2, @cast_3, @cast_4, @cast_5, @cast_6, @cast_7, @cast_8, @cast_9, @cast_10, @lim_0, @lim_1⟩
theorem ro_14 : (type_of% @lim_2) ∧ (type_of% @lim_3) ∧ (type_of% @lim_4) ∧ (type_of% @lim_5) ∧ (type_of% @lim_6) ∧ (type_of% @lim_7) ∧ (type_of% @lim_8) ∧ (type_of% @lim_9) ∧ (type_of% @lim_10) ∧ (type_of% @lim_11) ∧ (type_of% @lim_12) ∧ (type_of% @lim_13) ∧ (type_of% @lim_14) ∧ (type_of% @lim_15) ∧ (type_of% @lim_16) ∧ (type_of% @lim_17) := ⟨@lim_2, @lim_3, @lim_4, @lim_5, @lim_6, @lim_7, @lim_8, @lim_9, @lim_10, @lim_11, @lim_12, @lim_13, @lim_14, @lim_15, @lim_16, @lim_17⟩
theorem ro_15 : (type_of% @lim_18) ∧ (type_of% @lim_19) ∧ (type_of% @lim_20) ∧ (type_of% @lim_21) ∧ (type_of% @lim_22) ∧ (type_of% @lim_23) ∧ (type_of% @lim_24) ∧ (type_of% @lim_25) ∧ (type_of% @lim_26) ∧ (type_of% @lim_27) ∧ (type_of% @lim_28) ∧ (type_of% @lim_29) ∧ (type_of% @lim_30) ∧ (type_of% @lim_31) ∧ (type_of% @lim_32) ∧ (type_of% @sm_0) := ⟨@lim_18, @lim_19, @lim_20, @lim_21, @lim_22, @lim_23, @lim_24, @lim_25, @lim_26, @lim_27, @lim_28, @lim_29, @lim_30, @lim_31, @lim_32, @sm_0⟩
theorem ro_16 : (type_of% @sm_1) ∧ (type_of% @sm_2) ∧ (type_of% @sm_3) ∧ (type_of% @sm_4) ∧ (type_of% @sm_5) ∧ (type_of% @sm_6) ∧ (type_of% @sm_7) ∧ (type_of% @sm_8) ∧ (type_of% @sm_9) ∧ (type_of% @sm_10) ∧ (type_of% @sm_12) ∧ (type_of% @sm_20) ∧ (type_of% @sm_30) ∧ (type_of% @sm_40) ∧ (type_of% @sm_60) ∧ (type_of% @sm_63) := ⟨@sm_1, @sm_2, @sm_3, @sm_4, @sm_5, @sm_6, @sm_7, @sm_8, @sm_9, @sm_10, @sm_12, @sm_20, @sm_30, @sm_40, @sm_60, @sm_63⟩
theorem ro_17 : (type_of% @sm_90) ∧ (type_of% @sm_100) ∧ (type_of% @bind_t2) ∧ (type_of% @bind_t3) ∧ (type_of% @bind_t4) ∧ (type_of% @bind_t5) ∧ (type_of% @o_bnd_ok) ∧ (type_of% @o_bnd_bad) ∧ (type_of% @o_ofO_some) ∧ (type_of% @o_ofO_none) ∧ (type_of% @o_map_cons) ∧ (type_of% @o_map_nil) ∧ (type_of% @o_len_cons) ∧ (type_of% @o_len_nil) ∧ (type_of% @o_cons_app) ∧ (type_of% @o_nil_app) := ⟨@sm_90, @sm_100, @bind_t2, @bind_t3, @bind_t4, @bind_t5, @o_bnd_ok, @o_bnd_bad, @o_ofO_some, @o_ofO_none, @o_map_cons, @o_map_nil, @o_len_cons, @o_len_nil, @o_cons_app, @o_nil_app⟩
theorem ro_18 : (type_of% @o_isi_int_none) ∧ (type_of% @o_isi_int_bool) ∧ (type_of% @o_isi_int_int) ∧ (type_of% @o_isi_int_str) ∧ (type_of% @o_isi_int_list) ∧ (type_of% @o_isi_int_tuple) ∧ (type_of% @o_isi_int_dict) ∧ (type_of% @o_isi_bool_none) ∧ (type_of% @o_isi_bool_bool) ∧ (type_of% @o_isi_bool_int) ∧ (type_of% @o_isi_bool_str) ∧ (type_of% @o_isi_bool_list) ∧ (type_of% @o_isi_bool_tuple) ∧ (type_of% @o_isi_bool_dict) ∧ (type_of% @o_isi_tuple_none) ∧ (type_of% @o_isi_tuple_bool) := ⟨@o_isi_int_none, @o_isi_int_bool, @o_isi_int_int, @o_isi_int_str, @o_isi_int_list, @o_isi_int_tuple, @o_isi_int_dict, @o_isi_bool_none, @o_isi_bool_bool, @o_isi_bool_int, @o_isi_bool_str, @o_isi_bool_list, @o_isi_bool_tuple, @o_isi_bool_dict, @o_isi_tuple_none, @o_isi_tuple_bool⟩
theorem ro_19 : (type_of% @o_isi_tuple_int) ∧ (type_of% @o_isi_tuple_str) ∧ (type_of% @o_isi_tuple_list) ∧ (type_of% @o_isi_tuple_tuple) ∧ (type_of% @o_isi_tuple_dict) ∧ (type_of% @o_isi_list_none) ∧ (type_of% @o_isi_list_bool) ∧ (type_of% @o_isi_list_int) ∧ (type_of% @o_isi_list_str) ∧ (type_of% @o_isi_list_list) ∧ (type_of% @o_isi_list_tuple) ∧ (type_of% @o_isi_list_dict) ∧ (type_of% @o_isi_str_none) ∧ (type_of% @o_isi_str_bool) ∧ (type_of% @o_isi_str_int) ∧ (type_of% @o_isi_str_str) := ⟨@o_isi_tuple_int, @o_isi_tuple_str, @o_isi_tuple_list, @o_isi_tuple_tuple, @o_isi_tuple_dict, @o_isi_list_none, @o_isi_list_bool, @o_isi_list_int, @o_isi_list_str, @o_isi_list_list, @o_isi_list_tuple, @o_isi_list_dict, @o_isi_str_none, @o_isi_str_bool, @o_isi_str_int, @o_isi_str_str⟩
theorem ro_20 : (type_of% @o_isi_str_list) ∧ (type_of% @o_isi_str_tuple) ∧ (type_of% @o_isi_str_dict) ∧ (type_of% @o_isi_dict_none) ∧ (type_of% @o_isi_dict_bool) ∧ (type_of% @o_isi_dict_int) ∧ (type_of% @o_isi_dict_str) ∧ (type_of% @o_isi_dict_list) ∧ (type_of% @o_isi_dict_tuple) ∧ (type_of% @o_isi_dict_dict) ∧ (type_of% @o_add_i) ∧ (type_of% @o_add_t) ∧ (type_of% @o_add_l) ∧ (type_of% @o_add_s) ∧ (type_of% @o_sub_i) ∧ (type_of% @o_mul_i) := ⟨@o_isi_str_list, @o_isi_str_tuple, @o_isi_str_dict, @o_isi_dict_none, @o_isi_dict_bool, @o_isi_dict_int, @o_isi_dict_str, @o_isi_dict_list, @o_isi_dict_tuple, @o_isi_dict_dict, @o_add_i, @o_add_t, @o_add_l, @o_add_s, @o_sub_i, @o_mul_i⟩
theorem ro_21 : (type_of% @o_fdiv_i) ∧ (type_of% @o_mod_i) ∧ (type_of% @o_aug_a) ∧ (type_of% @o_aug_s) ∧ (type_of% @o_kD_l) ∧ (type_of% @o_kD_r) ∧ (type_of% @o_dK_i) ∧ (type_of% @o_dK_s) ∧ (type_of% @o_seq_l) ∧ (type_of% @o_seq_t) ∧ (type_of% @o_idx_l) ∧ (type_of% @o_idx_t) ∧ (type_of% @o_idx_d) ∧ (type_of% @o_mk_append) ∧ (type_of% @o_mk_extend) ∧ (type_of% @o_mk_pop0) := ⟨@o_fdiv_i, @o_mod_i, @o_aug_a, @o_aug_s, @o_kD_l, @o_kD_r, @o_dK_i, @o_dK_s, @o_seq_l, @o_seq_t, @o_idx_l, @o_idx_t, @o_idx_d, @o_mk_append, @o_mk_extend, @o_mk_pop0⟩
theorem ro_22 : (type_of% @o_mk_dget) ∧ (type_of% @o_mk_dget2) ∧ (type_of% @o_mk_dpop2) ∧ (type_of% @o_m_append) ∧ (type_of% @o_m_extend) ∧ (type_of% @o_m_pop0) ∧ (type_of% @o_m_dget) ∧ (type_of% @o_m_dget2) ∧ (type_of% @o_m_dpop2) ∧ (type_of% @o_p_len_l) ∧ (type_of% @o_p_len_t) ∧ (type_of% @o_p_len_d) ∧ (type_of% @o_p_len_s) ∧ (type_of% @o_p_tuple_l) ∧ (type_of% @o_p_tuple_t) ∧ (type_of% @o_p_list_l) := ⟨@o_mk_dget, @o_mk_dget2, @o_mk_dpop2, @o_m_append, @o_m_extend, @o_m_pop0, @o_m_dget, @o_m_dget2, @o_m_dpop2, @o_p_len_l, @o_p_len_t, @o_p_len_d, @o_p_len_s, @o_p_tuple_l, @o_p_tuple_t, @o_p_list_l⟩
theorem ro_23 : (type_of% @o_p_list_t) ∧ (type_of% @o_p_list_d) ∧ (type_of% @o_p_all) ∧ (type_of% @o_p_any) ∧ (type_of% @o_p_sum) ∧ (type_of% @o_p_min) ∧ (type_of% @o_p_max) ∧ (type_of% @o_p_min2) ∧ (type_of% @o_p_max2) ∧ (type_of% @o_p_sorted) ∧ (type_of% @o_p_sortP) ∧ (type_of% @o_p_sortPt) ∧ (type_of% @o_p_int_i) ∧ (type_of% @o_p_int_b) ∧ (type_of% @o_p_abs) ∧ (type_of% @o_p_repr) ∧ (type_of% @o_p_tr_t) ∧ (type_of% @o_p_tr_l) := ⟨@o_p_list_t, @o_p_list_d, @o_p_all, @o_p_any, @o_p_sum, @o_p_min, @o_p_max, @o_p_min2, @o_p_max2, @o_p_sorted, @o_p_sortP, @o_p_sortPt, @o_p_int_i, @o_p_int_b, @o_p_abs, @o_p_repr, @o_p_tr_t, @o_p_tr_l⟩
theorem ro_non : (type_of% @o_non_none) ∧ (type_of% @o_non_bool) ∧ (type_of% @o_non_int) ∧ (type_of% @o_non_str) ∧ (type_of% @o_non_list) ∧ (type_of% @o_non_tuple) ∧ (type_of% @o_non_dict) := ⟨@o_non_none, @o_non_bool, @o_non_int, @o_non_str, @o_non_list, @o_non_tuple, @o_non_dict⟩
theorem ro_w : (type_of% @o_p_dict) ∧ (type_of% @o_aug_t) ∧ (type_of% @o_mk_popAt) ∧ (type_of% @o_m_popAt) ∧ (type_of% @o_lst_l) ∧ (type_of% @o_get_l) ∧ (type_of% @cmp_ltt) ∧ (type_of% @m_lset) ∧ (type_of% @m_sxn) ∧ (type_of% @m_sga) ∧ (type_of% @fzS_m) ∧ (type_of% @m_fz) ∧ (type_of% @bind_l3) := ⟨@o_p_dict, @o_aug_t, @o_mk_popAt, @o_m_popAt, @o_lst_l, @o_get_l, @cmp_ltt, @m_lset, @m_sxn, @m_sga, @fzS_m, @m_fz, @bind_l3⟩
theorem ro_x : (type_of% @revR_t) ∧ (type_of% @m_rpl) ∧ (type_of% @newLD_m) ∧ (type_of% @m_lrg1) ∧ (type_of% @m_lrg2) ∧ (type_of% @o_mul_t) ∧ (type_of% @m_pr3) ∧ (type_of% @o_aug_f) ∧ (type_of% @m_rtt) ∧ (type_of% @rttS_m) ∧ (type_of% @rttE_m) := ⟨@revR_t, @m_rpl, @newLD_m, @m_lrg1, @m_lrg2, @o_mul_t, @m_pr3, @o_aug_f, @m_rtt, @rttS_m, @rttE_m⟩
theorem ro_y : (type_of% @m_fn) ∧ (type_of% @m_cal) ∧ (type_of% @calS_f) ∧ (type_of% @varR_f) ∧ (type_of% @argIn_f) ∧ (type_of% @refs_f) ∧ (type_of% @outs_f) ∧ (type_of% @mo_f) ∧ (type_of% @mem_one) ∧ (type_of% @callR_mt) ∧ (type_of% @m_rtm) ∧ (type_of% @rtmS_m) ∧ (type_of% @rtmE_m) ∧ (type_of% @m_tpo) ∧ (type_of% @tpoS_mt) := ⟨@m_fn, @m_cal, @calS_f, @varR_f, @argIn_f, @refs_f, @outs_f, @mo_f, @mem_one, @callR_mt, @m_rtm, @rtmS_m, @rtmE_m, @m_tpo, @tpoS_mt⟩
end Rf

set_option Elab.async false
set_option linter.all false
set_option maxRecDepth 100000
set_option maxHeartbeats 1000000
/-! PS: comprehensions and loops over what is told by a function. -/
namespace Rf
open PySem
theorem set_free {ρ : Env} {i : Nat} (h : ρ[i]? = some none) : ρ.set i none = ρ := by
  apply List.ext_getElem?
  intro k
  rw [List.getElem?_set]
  split
  · rename_i e
    subst e
    have hi := (List.getElem?_eq_some_iff.mp h).1
    rw [if_pos hi, h]
  · rfl
theorem own_free {ρ : Env} {i : Nat} (h : ρ[i]? = some none) : own ρ i = none := by unfold own slot; rw [h]; rfl
theorem free_lt {ρ : Env} {i : Nat} {x : Option SV} (h : ρ[i]? = some x) : i < ρ.length := (List.getElem?_eq_some_iff.mp h).1
theorem wipe_free {ρ : Env} {i : Nat} (h : ρ[i]? = some none) (y : Option SV) : wipeE (ρ.set i y) [i] = ρ := by rw [wipe_1, List.set_set, set_free h]
theorem wipe_free2 {ρ : Env} {i j : Nat} (hij : i ≠ j) (hi : ρ[i]? = some none) (hj : ρ[j]? = some none) (y z : Option SV) : wipeE ((ρ.set i y).set j z) [i, j] = ρ := by
  rw [wipe_2, List.set_set, List.set_comm _ _ (Ne.symm hij), List.set_set, set_free hi, set_free hj]
theorem bind_tt {ρ : Env} {i j : Nat} {a b : PyData} (h : own ρ i = none) (hl : i < ρ.length) (h2 : own ρ j = none) (hl2 : j < ρ.length) : bindTg (.t [i, j]) (.tuple [a, b]) ρ = some ((ρ.set i (some (.v a))).set j (some (.v b))) := by
  show (if (noMo ρ [i, j] && decide ([i, j].length = [a, b].length)) = true then _ else _) = _
  rw [noMo_2 h hl h2 hl2, if_pos (by rfl)]
  rfl
section
variable {cond : EvB} {elt : Env → Res (RV × Env)}
/-- one name -/
theorem comp_n {α : Type} {i : Nat} {ρ : Env} (g : α → PyData) (p : α → Bool) (f : α → PyData) (hs : ρ[i]? = some none) : ∀ (xs : List α) (acc : List PyData),
    (∀ a ∈ xs, cond (ρ.set i (some (.v (g a)))) = .ok (p a, ρ.set i (some (.v (g a))))) →
    (∀ a ∈ xs, p a = true → ∃ r, elt (ρ.set i (some (.v (g a)))) = .ok (r, ρ.set i (some (.v (g a)))) ∧ keep r = some (f a)) →
    acc.length + xs.length ≤ lim → compR [i] (bindTg (.n i)) cond elt (xs.map g) ρ acc = .ok (acc ++ (xs.filter p).map f, ρ)
  | [], acc, _, _, _ => by simp [compR]
  | a :: xs, acc, hc, he, hl => by
    have ih := fun acc => comp_n g p f hs xs acc (fun y hy => hc y (List.mem_cons_of_mem _ hy)) (fun y hy => he y (List.mem_cons_of_mem _ hy))
    simp only [List.length_cons] at hl
    have hb := bind_n (d := g a) (own_free hs) (free_lt hs)
    have h2 := hc a List.mem_cons_self
    cases hp : p a with
    | false =>
      rw [hp] at h2
      simp only [List.map_cons, compR, hb, ofO_some, bnd_ok, h2, Bool.false_eq_true, if_false, wipe_free hs, List.filter_cons, hp]
      exact ih acc (by omega)
    | true =>
      rw [hp] at h2
      obtain ⟨r, h5, h6⟩ := he a List.mem_cons_self hp
      simp only [List.map_cons, compR, hb, ofO_some, bnd_ok, h2, if_true, h5, h6, wipe_free hs, List.filter_cons, hp]
      rw [if_pos (by omega), ih (acc ++ [f a]) (by simp only [List.length_append, List.length_singleton]; omega)]
      simp
/-- one name, every turn -/
theorem comp_na {α : Type} {i : Nat} {ρ : Env} (g : α → PyData) (f : α → PyData) (hs : ρ[i]? = some none) (xs : List α)
    (hc : ∀ a ∈ xs, cond (ρ.set i (some (.v (g a)))) = .ok (true, ρ.set i (some (.v (g a)))))
    (he : ∀ a ∈ xs, ∃ r, elt (ρ.set i (some (.v (g a)))) = .ok (r, ρ.set i (some (.v (g a)))) ∧ keep r = some (f a))
    (hl : xs.length ≤ lim) : compR [i] (bindTg (.n i)) cond elt (xs.map g) ρ [] = .ok (xs.map f, ρ) := by
  have := comp_n (cond := cond) (elt := elt) (p := fun _ => true) g f hs xs [] hc (fun a ha _ => he a ha) (by simpa using hl)
  rw [this, List.filter_eq_self.mpr (fun _ _ => rfl), List.nil_append]
/-- one name, some turns -/
theorem comp_nf {α : Type} {i : Nat} {ρ : Env} (g : α → PyData) (p : α → Bool) (f : α → PyData) (hs : ρ[i]? = some none) (xs : List α)
    (hc : ∀ a ∈ xs, cond (ρ.set i (some (.v (g a)))) = .ok (p a, ρ.set i (some (.v (g a)))))
    (he : ∀ a ∈ xs, p a = true → ∃ r, elt (ρ.set i (some (.v (g a)))) = .ok (r, ρ.set i (some (.v (g a)))) ∧ keep r = some (f a))
    (hl : xs.length ≤ lim) : compR [i] (bindTg (.n i)) cond elt (xs.map g) ρ [] = .ok ((xs.filter p).map f, ρ) := by
  have := comp_n (cond := cond) (elt := elt) g p f hs xs [] hc he (by simpa using hl)
  rw [this, List.nil_append]
/-- two names -/
theorem comp_t {α : Type} {i j : Nat} {ρ : Env} (u w : α → PyData) (p : α → Bool) (f : α → PyData) (hij : i ≠ j) (hi : ρ[i]? = some none) (hj : ρ[j]? = some none) : ∀ (xs : List α) (acc : List PyData),
    (∀ a ∈ xs, cond ((ρ.set i (some (.v (u a)))).set j (some (.v (w a)))) = .ok (p a, (ρ.set i (some (.v (u a)))).set j (some (.v (w a))))) →
    (∀ a ∈ xs, p a = true → ∃ r, elt ((ρ.set i (some (.v (u a)))).set j (some (.v (w a)))) = .ok (r, (ρ.set i (some (.v (u a)))).set j (some (.v (w a)))) ∧ keep r = some (f a)) →
    acc.length + xs.length ≤ lim → compR [i, j] (bindTg (.t [i, j])) cond elt (xs.map fun a => .tuple [u a, w a]) ρ acc = .ok (acc ++ (xs.filter p).map f, ρ)
  | [], acc, _, _, _ => by simp [compR]
  | a :: xs, acc, hc, he, hl => by
    have ih := fun acc => comp_t u w p f hij hi hj xs acc (fun y hy => hc y (List.mem_cons_of_mem _ hy)) (fun y hy => he y (List.mem_cons_of_mem _ hy))
    simp only [List.length_cons] at hl
    have hb := bind_tt (a := u a) (b := w a) (own_free hi) (free_lt hi) (own_free hj) (free_lt hj)
    have h2 := hc a List.mem_cons_self
    cases hp : p a with
    | false =>
      rw [hp] at h2
      simp only [List.map_cons, compR, hb, ofO_some, bnd_ok, h2, Bool.false_eq_true, if_false, wipe_free2 hij hi hj, List.filter_cons, hp]
      exact ih acc (by omega)
    | true =>
      rw [hp] at h2
      obtain ⟨r, h5, h6⟩ := he a List.mem_cons_self hp
      simp only [List.map_cons, compR, hb, ofO_some, bnd_ok, h2, if_true, h5, h6, wipe_free2 hij hi hj, List.filter_cons, hp]
      rw [if_pos (by omega), ih (acc ++ [f a]) (by simp only [List.length_append, List.length_singleton]; omega)]
      simp
theorem comp_tf {α : Type} {i j : Nat} {ρ : Env} (u w : α → PyData) (p : α → Bool) (f : α → PyData) (hij : i ≠ j) (hi : ρ[i]? = some none) (hj : ρ[j]? = some none) (xs : List α)
    (hc : ∀ a ∈ xs, cond ((ρ.set i (some (.v (u a)))).set j (some (.v (w a)))) = .ok (p a, (ρ.set i (some (.v (u a)))).set j (some (.v (w a)))))
    (he : ∀ a ∈ xs, p a = true → ∃ r, elt ((ρ.set i (some (.v (u a)))).set j (some (.v (w a)))) = .ok (r, (ρ.set i (some (.v (u a)))).set j (some (.v (w a)))) ∧ keep r = some (f a))
    (hl : xs.length ≤ lim) : compR [i, j] (bindTg (.t [i, j])) cond elt (xs.map fun a => .tuple [u a, w a]) ρ [] = .ok ((xs.filter p).map f, ρ) := by
  have := comp_t (cond := cond) (elt := elt) u w p f hij hi hj xs [] hc he (by simpa using hl)
  rw [this, List.nil_append]
end
section
variable {body : EvS}
/-- a loop that looks for the first of a kind; one name -/
theorem for_n {α : Type} {i : Nat} {ρ : Env} (g : α → PyData) (p : α → Bool) (r : α → RV) {x0 : Option SV} (hx : x0.bind SV.mo = none) (hs : ρ[i]? = some x0) : ∀ (xs : List α),
    (∀ a ∈ xs, body (ρ.set i (some (.v (g a)))) = if p a = true then .ok (.ret (r a) (ρ.set i (some (.v (g a))))) else .ok (.nxt (ρ.set i (some (.v (g a)))))) →
    (∀ a, xs.find? p = some a → forR (bindTg (.n i)) body (xs.map g) ρ = .ok (.ret (r a) (ρ.set i (some (.v (g a)))))) ∧
    (xs.find? p = none → ∃ y : Option SV, y.bind SV.mo = none ∧ forR (bindTg (.n i)) body (xs.map g) ρ = .ok (.nxt (ρ.set i y)))
  | [], _ => ⟨fun a h => absurd h (by simp), fun _ => ⟨x0, hx, by
      have : ρ.set i x0 = ρ := by
        apply List.ext_getElem?
        intro k
        rw [List.getElem?_set]
        split
        · rename_i e
          subst e
          rw [if_pos (free_lt hs), hs]
        · rfl
      simp [forR, this]⟩⟩
  | a :: xs, hb => by
    have ho : own ρ i = none := by unfold own slot; rw [hs]; exact hx
    have h1 := bind_n (d := g a) ho (free_lt hs)
    have h2 := hb a List.mem_cons_self
    have ih := for_n (ρ := ρ.set i (some (.v (g a)))) (i := i) g p r (x0 := some (.v (g a))) rfl (by rw [List.getElem?_set, if_pos rfl, if_pos (free_lt hs)]) xs (fun y hy => by
      have := hb y (List.mem_cons_of_mem _ hy)
      simpa only [List.set_set] using this)
    simp only [List.set_set] at ih
    cases hp : p a with
    | true =>
      rw [hp, if_pos rfl] at h2
      refine ⟨fun b hb2 => ?_, fun h => ?_⟩
      · rw [List.find?_cons, hp] at hb2
        cases hb2
        simp only [List.map_cons, forR, h1, ofO_some, bnd_ok, h2]
      · rw [List.find?_cons, hp] at h; cases h
    | false =>
      rw [hp, if_neg (by decide)] at h2
      have e : (a :: xs).find? p = xs.find? p := by rw [List.find?_cons, hp]
      rw [e]
      refine ⟨fun b hb2 => ?_, fun h => ?_⟩
      · simp only [List.map_cons, forR, h1, ofO_some, bnd_ok, h2, ih.1 b hb2]
      · obtain ⟨y, hy, e2⟩ := ih.2 h
        exact ⟨y, hy, by simp only [List.map_cons, forR, h1, ofO_some, bnd_ok, h2, e2]⟩
/-- a loop with several ways out -/
theorem for_some {α : Type} {i : Nat} {ρ : Env} (g : α → PyData) (p : α → Option RV) {x0 : Option SV} (hx : x0.bind SV.mo = none) (hs : ρ[i]? = some x0) : ∀ (xs : List α),
    (∀ a ∈ xs, body (ρ.set i (some (.v (g a)))) = match p a with | some r => .ok (.ret r (ρ.set i (some (.v (g a))))) | none => .ok (.nxt (ρ.set i (some (.v (g a)))))) →
    ∃ y : Option SV, y.bind SV.mo = none ∧ forR (bindTg (.n i)) body (xs.map g) ρ = match xs.findSome? p with | some r => .ok (.ret r (ρ.set i y)) | none => .ok (.nxt (ρ.set i y))
  | [], _ => ⟨x0, hx, by
      have : ρ.set i x0 = ρ := by
        apply List.ext_getElem?
        intro k
        rw [List.getElem?_set]
        split
        · rename_i e
          subst e
          rw [if_pos (free_lt hs), hs]
        · rfl
      simp [forR, this]⟩
  | a :: xs, hb => by
    have ho : own ρ i = none := by unfold own slot; rw [hs]; exact hx
    have h1 := bind_n (d := g a) ho (free_lt hs)
    have h2 := hb a List.mem_cons_self
    obtain ⟨y, hy, ih⟩ := for_some (ρ := ρ.set i (some (.v (g a)))) (i := i) g p (x0 := some (.v (g a))) rfl (by rw [List.getElem?_set, if_pos rfl, if_pos (free_lt hs)]) xs (fun y hy => by
      have := hb y (List.mem_cons_of_mem _ hy)
      simpa only [List.set_set] using this)
    simp only [List.set_set] at ih
    cases hp : p a with
    | some r =>
      rw [hp] at h2
      exact ⟨some (.v (g a)), rfl, by simp only [List.map_cons, forR, h1, ofO_some, bnd_ok, h2, List.findSome?_cons, hp]⟩
    | none =>
      rw [hp] at h2
      exact ⟨y, hy, by simp only [List.map_cons, forR, h1, ofO_some, bnd_ok, h2, List.findSome?_cons, hp, ih]⟩
/-- the same with two names -/
theorem for_t {α : Type} {i j : Nat} {ρ : Env} (u w : α → PyData) (p : α → Bool) (r : α → RV) (hij : i ≠ j) {x0 z0 : Option SV} (hx : x0.bind SV.mo = none) (hz : z0.bind SV.mo = none) (hs : ρ[i]? = some x0) (hs2 : ρ[j]? = some z0) : ∀ (xs : List α),
    (∀ a ∈ xs, body ((ρ.set i (some (.v (u a)))).set j (some (.v (w a)))) = if p a = true then .ok (.ret (r a) ((ρ.set i (some (.v (u a)))).set j (some (.v (w a))))) else .ok (.nxt ((ρ.set i (some (.v (u a)))).set j (some (.v (w a)))))) →
    (∀ a, xs.find? p = some a → forR (bindTg (.t [i, j])) body (xs.map fun a => .tuple [u a, w a]) ρ = .ok (.ret (r a) ((ρ.set i (some (.v (u a)))).set j (some (.v (w a)))))) ∧
    (xs.find? p = none → ∃ y z : Option SV, y.bind SV.mo = none ∧ z.bind SV.mo = none ∧ forR (bindTg (.t [i, j])) body (xs.map fun a => .tuple [u a, w a]) ρ = .ok (.nxt ((ρ.set i y).set j z)))
  | [], _ => ⟨fun a h => absurd h (by simp), fun _ => ⟨x0, z0, hx, hz, by
      have e : ∀ {ρ : Env} {i : Nat} {x0 : Option SV}, ρ[i]? = some x0 → ρ.set i x0 = ρ := fun {ρ i x0} hs => by
        apply List.ext_getElem?
        intro k
        rw [List.getElem?_set]
        split
        · rename_i e
          subst e
          rw [if_pos (free_lt hs), hs]
        · rfl
      rw [e hs, e hs2]
      rfl⟩⟩
  | a :: xs, hb => by
    have ho : own ρ i = none := by unfold own slot; rw [hs]; exact hx
    have ho2 : own ρ j = none := by unfold own slot; rw [hs2]; exact hz
    have h1 := bind_tt (a := u a) (b := w a) ho (free_lt hs) ho2 (free_lt hs2)
    have h2 := hb a List.mem_cons_self
    have hcm : ∀ y z y2 z2 : Option SV, ((((ρ.set i y).set j z).set i y2).set j z2) = (ρ.set i y2).set j z2 := fun y z y2 z2 => by
      rw [List.set_comm _ _ (Ne.symm hij), List.set_set, List.set_set]
    have ih := for_t (ρ := (ρ.set i (some (.v (u a)))).set j (some (.v (w a)))) (i := i) (j := j) u w p r hij (x0 := some (.v (u a))) (z0 := some (.v (w a))) rfl rfl
      (by rw [List.getElem?_set, if_neg (Ne.symm hij), List.getElem?_set, if_pos rfl, if_pos (free_lt hs)])
      (by rw [List.getElem?_set, if_pos rfl, if_pos (by rw [List.length_set]; exact free_lt hs2)]) xs (fun y hy => by
      have := hb y (List.mem_cons_of_mem _ hy)
      simpa only [hcm] using this)
    simp only [hcm] at ih
    cases hp : p a with
    | true =>
      rw [hp, if_pos rfl] at h2
      refine ⟨fun b hb2 => ?_, fun h => ?_⟩
      · rw [List.find?_cons, hp] at hb2
        cases hb2
        simp only [List.map_cons, forR, h1, ofO_some, bnd_ok, h2]
      · rw [List.find?_cons, hp] at h; cases h
    | false =>
      rw [hp, if_neg (by decide)] at h2
      have e : (a :: xs).find? p = xs.find? p := by rw [List.find?_cons, hp]
      rw [e]
      refine ⟨fun b hb2 => ?_, fun h => ?_⟩
      · simp only [List.map_cons, forR, h1, ofO_some, bnd_ok, h2, ih.1 b hb2]
      · obtain ⟨y, z, hy, hz2, e2⟩ := ih.2 h
        exact ⟨y, z, hy, hz2, by simp only [List.map_cons, forR, h1, ofO_some, bnd_ok, h2, e2]⟩
end
theorem slt_1 {x0 : PyData} {l : List PyData} : slcD (.tuple (x0 :: l)) none (some 1) = some (.v (.tuple [x0])) := by
  have h := slc_to (xs := x0 :: l) (k := 1)
  simpa using h
theorem slf_1 {x0 : PyData} {l : List PyData} : slcD (.tuple (x0 :: l)) (some 1) none = some (.v (.tuple l)) := by
  have h := slc_from (xs := x0 :: l) (k := 1)
  simpa using h
theorem slt_2 {x0 x1 : PyData} {l : List PyData} : slcD (.tuple (x0 :: x1 :: l)) none (some 2) = some (.v (.tuple [x0, x1])) := by
  have h := slc_to (xs := x0 :: x1 :: l) (k := 2)
  simpa using h
theorem slf_2 {x0 x1 : PyData} {l : List PyData} : slcD (.tuple (x0 :: x1 :: l)) (some 2) none = some (.v (.tuple l)) := by
  have h := slc_from (xs := x0 :: x1 :: l) (k := 2)
  simpa using h
theorem slt_3 {x0 x1 x2 : PyData} {l : List PyData} : slcD (.tuple (x0 :: x1 :: x2 :: l)) none (some 3) = some (.v (.tuple [x0, x1, x2])) := by
  have h := slc_to (xs := x0 :: x1 :: x2 :: l) (k := 3)
  simpa using h
theorem slf_3 {x0 x1 x2 : PyData} {l : List PyData} : slcD (.tuple (x0 :: x1 :: x2 :: l)) (some 3) none = some (.v (.tuple l)) := by
  have h := slc_from (xs := x0 :: x1 :: x2 :: l) (k := 3)
  simpa using h
theorem slt_4 {x0 x1 x2 x3 : PyData} {l : List PyData} : slcD (.tuple (x0 :: x1 :: x2 :: x3 :: l)) none (some 4) = some (.v (.tuple [x0, x1, x2, x3])) := by
  have h := slc_to (xs := x0 :: x1 :: x2 :: x3 :: l) (k := 4)
  simpa using h
theorem slf_4 {x0 x1 x2 x3 : PyData} {l : List PyData} : slcD (.tuple (x0 :: x1 :: x2 :: x3 :: l)) (some 4) none = some (.v (.tuple l)) := by
  have h := slc_from (xs := x0 :: x1 :: x2 :: x3 :: l) (k := 4)
  simpa using h
theorem slt_5 {x0 x1 x2 x3 x4 : PyData} {l : List PyData} : slcD (.tuple (x0 :: x1 :: x2 :: x3 :: x4 :: l)) none (some 5) = some (.v (.tuple [x0, x1, x2, x3, x4])) := by
  have h := slc_to (xs := x0 :: x1 :: x2 :: x3 :: x4 :: l) (k := 5)
  simpa using h
theorem slf_5 {x0 x1 x2 x3 x4 : PyData} {l : List PyData} : slcD (.tuple (x0 :: x1 :: x2 :: x3 :: x4 :: l)) (some 5) none = some (.v (.tuple l)) := by
  have h := slc_from (xs := x0 :: x1 :: x2 :: x3 :: x4 :: l) (k := 5)
  simpa using h
theorem slc_mid {xs : List PyData} {i j : Nat} (hi : i ≤ xs.length) (h : j ≤ xs.length) : slcD (.tuple xs) (some (i : Int)) (some (j : Int)) = some (.v (.tuple ((xs.take j).drop i))) := by
  simp only [slcD, cutG, HT.sIx_nat]
  rw [List.drop_take, Nat.min_eq_left hi, Nat.min_eq_left h]
theorem in_two {i a b : Int} : cmpD .isIn (.int i) (.tuple [.int a, .int b]) = some (decide (i = a ∨ i = b)) := by
  show (if (flat (.int i) && [PyData.int a, .int b].all flat) = true then some (inD (.int i) [.int a, .int b]) else none) = _
  have e := inD_ints (i := i) (is := [a, b])
  simp only [List.map_cons, List.map_nil, List.mem_cons, List.not_mem_nil, or_false] at e
  rw [if_pos (by simp [flat]), e]
theorem pairD_fn : (pairD : Int × Int → PyData) = fun a => .tuple [.int a.1, .int a.2] := rfl
theorem in_tab {t : Tab} {k : Int} : cmpD .isIn (.int k) (.dict (t.map fun p => (PyData.int p.1, PyData.int p.2))) = some (lookT t k).isSome := by
  have h : cmpD .isIn (.int k) (.dict (t.map fun p => (PyData.int p.1, PyData.int p.2))) = some ((t.map fun p => (PyData.int p.1, PyData.int p.2)).any fun p => decide (dK p.1 = some (Sum.inl k))) := rfl
  rw [h]
  congr 1
  unfold lookT
  induction t with
  | nil => rfl
  | cons p t ih =>
    rw [List.map_cons, List.any_cons, List.find?_cons]
    by_cases e : p.1 = k
    · simp [dK, e]
    · have ih := ih rfl
      simp only [dK] at ih ⊢
      simp [e, ih]
/-- the first of a key in rows -/
theorem look_find {b : List (Int × Int)} {k : Int} : (b.find? fun p => decide (p.1 = k)).map (·.2) = lookT b k := by
  rfl
end Rf

set_option Elab.async false
set_option linter.all false
set_option maxRecDepth 100000
set_option maxHeartbeats 0
namespace Law
section
open PySem Rf
abbrev Flaw : Nat := 0
abbrev F_law_pool : Nat := 1
abbrev F_law_deeds : Nat := 2
abbrev Fempty_fronts : Nat := 3
abbrev Fempty_turntrees : Nat := 4
abbrev Fempty_zippers : Nat := 5
abbrev F_law_draw : Nat := 6
abbrev F_law_after : Nat := 7
abbrev F_law_key : Nat := 8
abbrev Fmoved_up : Nat := 9
abbrev Fturned_up : Nat := 10
abbrev Fput_fronts : Nat := 11
abbrev Fput_turntrees : Nat := 12
abbrev Fput_zippers : Nat := 13
abbrev Fdrop_fronts : Nat := 14
abbrev Fdrop_turntrees : Nat := 15
abbrev Fdrop_zippers : Nat := 16
abbrev F_law_same : Nat := 17
abbrev Frows_fronts : Nat := 18
abbrev Frows_turntrees : Nat := 19
abbrev Frows_zippers : Nat := 20
abbrev F_law_pairs : Nat := 21
abbrev F_law_spread : Nat := 22
abbrev Flook : Nat := 23
abbrev Fway_to : Nat := 24
abbrev Fabove_two : Nat := 25
abbrev Fabove : Nat := 26
abbrev Fput_plaintrees : Nat := 27
abbrev Fopened : Nat := 28
abbrev Fhas_key : Nat := 29
abbrev Ftree_rows : Nat := 30
abbrev Fset_back : Nat := 31
abbrev Fknot_of : Nat := 32
def e_law_0 : E := (.var 10)
def q_law_0 : Oe := (.some (.cmp .ne (.var 10) (.var 8)))
def e_law_1 : E := (.idx (.var 11) (.int 0))
def q_law_1 : Oe := .none
def e_law_2 : E := (.var 10)
def q_law_2 : Oe := (.some (.cmp .ne (.var 10) (.var 9)))
def u_law_22 : Ss := .cons (.ret (.bl false)) .nil
def u_law_21 : Ss := .cons (.ret (.bl false)) .nil
def u_law_20 : Ss := .cons (.iff (.cmp .ne (.idx (.var 6) (.int 0)) (.var 9)) u_law_22 .nil) .nil
def u_law_19 : Ss := .cons (.set 2 (.bin .add (.lst (.cons (.var 9) .nil)) (.comp [10] e_law_2 (.n 10) (.e (.var 2)) q_law_2))) u_law_20
def u_law_18 : Ss := .cons (.ret (.bl false)) .nil
def u_law_17 : Ss := .cons (.pr3 5 6 7 (.call Fdrop_fronts (Str.ofString "drop_fronts") (.cons (.var 5) (.cons (.var 8) .nil))) (.call Fdrop_turntrees (Str.ofString "drop_turntrees") (.cons (.var 6) (.cons (.var 8) .nil))) (.call Fdrop_zippers (Str.ofString "drop_zippers") (.cons (.var 7) (.cons (.var 8) .nil)))) .nil
def u_law_16 : Ss := .cons (.pr3 5 6 7 (.call Fput_fronts (Str.ofString "put_fronts") (.cons (.var 5) (.cons (.var 8) (.cons (.idx (.var 4) (.int 2)) .nil)))) (.call Fput_turntrees (Str.ofString "put_turntrees") (.cons (.var 6) (.cons (.var 8) (.cons (.idx (.var 4) (.int 2)) .nil)))) (.call Fput_zippers (Str.ofString "put_zippers") (.cons (.var 7) (.cons (.var 8) (.cons (.idx (.var 4) (.int 2)) .nil))))) .nil
def u_law_15 : Ss := .cons (.iff (.or (.cmp .ne (.comp [11] e_law_1 (.n 11) (.e (.var 5)) q_law_1) (.var 2)) (.not (.call F_law_same (Str.ofString "_law_same") (.cons (.lst (.cons (.call Frows_fronts (Str.ofString "rows_fronts") (.cons (.var 5) .nil)) (.cons (.call Frows_turntrees (Str.ofString "rows_turntrees") (.cons (.var 6) .nil)) (.cons (.call Frows_zippers (Str.ofString "rows_zippers") (.cons (.var 7) .nil)) .nil)))) (.cons (.rpl (.lst (.cons (.call F_law_pairs (Str.ofString "_law_pairs") (.cons (.var 3) .nil)) .nil)) (.int 3)) .nil))))) u_law_21 .nil) .nil
def u_law_14 : Ss := .cons (.iff (.cmp .isIn (.var 9) (.var 3)) u_law_19 .nil) u_law_15
def u_law_13 : Ss := .cons (.set 6 (.call Fturned_up (Str.ofString "turned_up") (.cons (.var 6) (.cons (.var 9) .nil)))) u_law_14
def u_law_12 : Ss := .cons (.set 5 (.call Fmoved_up (Str.ofString "moved_up") (.cons (.var 5) (.cons (.var 9) .nil)))) u_law_13
def u_law_11 : Ss := .cons (.set 9 (.call F_law_key (Str.ofString "_law_key") (.cons (.var 1) .nil))) u_law_12
def u_law_10 : Ss := .cons (.iff (.and (.cmp .eq (.idx (.var 4) (.int 0)) (.str (Str.ofString "put"))) (.or (.cmp .ne (.idx (.var 6) (.int 0)) (.var 8)) (.cmp .ne (.idx (.idx (.idx (.var 7) (.int 1)) (.int 0)) (.int 0)) (.var 8)))) u_law_18 .nil) u_law_11
def u_law_9 : Ss := .cons (.set 2 (.bin .add (.ife (.cmp .eq (.idx (.var 4) (.int 0)) (.str (Str.ofString "put"))) (.lst (.cons (.var 8) .nil)) (.lst .nil)) (.comp [10] e_law_0 (.n 10) (.e (.var 2)) q_law_0))) u_law_10
def u_law_8 : Ss := .cons (.set 3 (.call F_law_after (Str.ofString "_law_after") (.cons (.var 3) (.cons (.var 4) .nil)))) u_law_9
def u_law_7 : Ss := .cons (.iff (.cmp .eq (.idx (.var 4) (.int 0)) (.str (Str.ofString "put"))) u_law_16 u_law_17) u_law_8
def u_law_6 : Ss := .cons (.set 8 (.idx (.var 4) (.int 1))) u_law_7
def u_law_5 : Ss := .cons (.ret (.bl true)) .nil
def u_law_4 : Ss := .cons (.for (.n 4) (.e (.call F_law_deeds (Str.ofString "_law_deeds") (.cons (.var 1) (.cons (.call F_law_draw (Str.ofString "_law_draw") (.cons (.var 1) (.cons (.int 60) .nil))) .nil)))) u_law_6) u_law_5
def u_law_3 : Ss := .cons (.set 3 .dic0) u_law_4
def u_law_2 : Ss := .cons (.set 2 (.lst .nil)) u_law_3
def u_law_1 : Ss := .cons (.pr3 5 6 7 (.call Fempty_fronts (Str.ofString "empty_fronts") .nil) (.call Fempty_turntrees (Str.ofString "empty_turntrees") .nil) (.call Fempty_zippers (Str.ofString "empty_zippers") .nil)) u_law_2
def u_law_0 : Ss := .cons (.own 1 (.call F_law_pool (Str.ofString "_law_pool") (.cons (.var 0) .nil))) u_law_1
def t_law : Ss := u_law_0
abbrev f_law : FDef := ⟨1, 12, t_law⟩
def u__law_pool_3 : Ss := .cons (.set 1 (.bin .mod (.prm .int (.cons (.bin .add (.bin .mul (.var 1) (.int 31)) (.var 2)) .nil)) (.int 1000003))) .nil
def u__law_pool_2 : Ss := .cons (.ret (.lst (.cons (.prm .list (.cons (.var 0) .nil)) (.cons (.int 0) (.cons (.int 0) (.cons (.int 0) (.cons (.var 1) .nil))))))) .nil
def u__law_pool_1 : Ss := .cons (.for (.n 2) (.e (.slc (.var 0) .none (.some (.int 63)))) u__law_pool_3) u__law_pool_2
def u__law_pool_0 : Ss := .cons (.set 1 (.int 7)) u__law_pool_1
def t__law_pool : Ss := u__law_pool_0
abbrev f__law_pool : FDef := ⟨1, 3, t__law_pool⟩
def e__law_deeds_0 : E := (.var 7)
def q__law_deeds_0 : Oe := (.some (.cmp .ne (.var 7) (.var 6)))
def u__law_deeds_10 : Ss := .cons (.set 3 (.comp [7] e__law_deeds_0 (.n 7) (.e (.var 3)) q__law_deeds_0)) .nil
def u__law_deeds_9 : Ss := .cons (.exp (.met .append 4 (.cons (.tup (.cons (.str (Str.ofString "drop")) (.cons (.var 6) .nil))) .nil))) u__law_deeds_10
def u__law_deeds_8 : Ss := .cons (.set 3 (.ife (.cmp .notIn (.var 6) (.var 3)) (.bin .add (.var 3) (.lst (.cons (.var 6) .nil))) (.var 3))) .nil
def u__law_deeds_7 : Ss := .cons (.exp (.met .append 4 (.cons (.tup (.cons (.str (Str.ofString "put")) (.cons (.var 6) (.cons (.call F_law_draw (Str.ofString "_law_draw") (.cons (.var 0) (.cons (.int 100) .nil))) .nil)))) .nil))) u__law_deeds_8
def u__law_deeds_6 : Ss := .cons (.iff (.and (.cmp .gt (.call F_law_draw (Str.ofString "_law_draw") (.cons (.var 0) (.cons (.int 3) .nil))) (.int 0)) (.or (.cmp .isIn (.var 6) (.var 3)) (.cmp .lt (.prm .len (.cons (.var 3) .nil)) (.int 40)))) u__law_deeds_7 u__law_deeds_9) .nil
def u__law_deeds_5 : Ss := .cons (.set 6 (.call F_law_draw (Str.ofString "_law_draw") (.cons (.var 0) (.cons (.var 2) .nil)))) u__law_deeds_6
def u__law_deeds_4 : Ss := .cons (.ret (.var 4)) .nil
def u__law_deeds_3 : Ss := .cons (.for (.n 5) (.r1 (.var 1)) u__law_deeds_5) u__law_deeds_4
def u__law_deeds_2 : Ss := .cons (.own 4 (.lst .nil)) u__law_deeds_3
def u__law_deeds_1 : Ss := .cons (.set 3 (.lst .nil)) u__law_deeds_2
def u__law_deeds_0 : Ss := .cons (.set 2 (.idx (.tup (.cons (.int 8) (.cons (.int 30) (.cons (.int 100) .nil)))) (.call F_law_draw (Str.ofString "_law_draw") (.cons (.var 0) (.cons (.int 3) .nil))))) u__law_deeds_1
def t__law_deeds : Ss := u__law_deeds_0
abbrev f__law_deeds : FDef := ⟨2, 8, t__law_deeds⟩
def u_empty_fronts_0 : Ss := .cons (.ret (.tup .nil)) .nil
def t_empty_fronts : Ss := u_empty_fronts_0
abbrev f_empty_fronts : FDef := ⟨0, 0, t_empty_fronts⟩
def u_empty_turntrees_0 : Ss := .cons (.ret (.tup .nil)) .nil
def t_empty_turntrees : Ss := u_empty_turntrees_0
abbrev f_empty_turntrees : FDef := ⟨0, 0, t_empty_turntrees⟩
def u_empty_zippers_0 : Ss := .cons (.ret (.tup (.cons (.tup .nil) (.cons (.tup .nil) .nil)))) .nil
def t_empty_zippers : Ss := u_empty_zippers_0
abbrev f_empty_zippers : FDef := ⟨0, 0, t_empty_zippers⟩
def u__law_draw_13 : Ss := .cons (.sit 0 (.int 2) (.call F_law_spread (Str.ofString "_law_spread") (.cons (.var 3) .nil))) .nil
def u__law_draw_12 : Ss := .cons (.ret (.bin .mod (.bin .fdiv (.var 4) (.int 5)) (.var 1))) .nil
def u__law_draw_11 : Ss := .cons (.set 4 (.bin .mod (.prm .int (.cons (.bin .add (.bin .mul (.var 4) (.int 16807)) (.idx (.var 0) (.int 3))) .nil)) (.int 2147483629))) u__law_draw_12
def u__law_draw_10 : Ss := .cons (.set 4 (.bin .mod (.prm .int (.cons (.bin .add (.bin .add (.bin .mul (.idx (.var 0) (.int 4)) (.int 48271)) (.bin .mul (.idx (.var 0) (.int 3)) (.int 69621))) (.int 1)) .nil)) (.int 2147483647))) u__law_draw_11
def u__law_draw_9 : Ss := .cons (.iff (.cmp .lt (.var 3) (.int 1000000000000000000)) u__law_draw_13 .nil) .nil
def u__law_draw_8 : Ss := .cons (.sit 0 (.int 2) (.var 3)) u__law_draw_9
def u__law_draw_7 : Ss := .cons (.sit 0 (.int 1) (.bin .add (.idx (.var 0) (.int 1)) (.int 1))) u__law_draw_8
def u__law_draw_6 : Ss := .cons (.set 3 (.idx (.idx (.var 0) (.int 0)) (.idx (.var 0) (.int 1)))) u__law_draw_7
def u__law_draw_5 : Ss := .cons (.ret (.var 2)) .nil
def u__law_draw_4 : Ss := .cons (.sit 0 (.int 2) (.bin .fdiv (.idx (.var 0) (.int 2)) (.var 1))) u__law_draw_5
def u__law_draw_3 : Ss := .cons (.set 2 (.bin .mod (.prm .int (.cons (.idx (.var 0) (.int 2)) .nil)) (.var 1))) u__law_draw_4
def u__law_draw_2 : Ss := .cons (.iff (.cmp .le (.idx (.var 0) (.int 2)) (.int 0)) u__law_draw_10 .nil) u__law_draw_3
def u__law_draw_1 : Ss := .cons (.sit 0 (.int 3) (.bin .add (.idx (.var 0) (.int 3)) (.int 1))) u__law_draw_2
def u__law_draw_0 : Ss := .cons (.iff (.and (.cmp .le (.idx (.var 0) (.int 2)) (.int 0)) (.cmp .lt (.idx (.var 0) (.int 1)) (.prm .len (.cons (.idx (.var 0) (.int 0)) .nil)))) u__law_draw_6 .nil) u__law_draw_1
def t__law_draw : Ss := u__law_draw_0
abbrev f__law_draw : FDef := ⟨2, 5, t__law_draw⟩
def u__law_after_4 : Ss := .cons (.exp (.met .dpop2 2 (.cons (.idx (.var 1) (.int 1)) (.cons .non .nil)))) .nil
def u__law_after_3 : Ss := .cons (.sit 2 (.idx (.var 1) (.int 1)) (.idx (.var 1) (.int 2))) .nil
def u__law_after_2 : Ss := .cons (.ret (.var 2)) .nil
def u__law_after_1 : Ss := .cons (.iff (.cmp .eq (.idx (.var 1) (.int 0)) (.str (Str.ofString "put"))) u__law_after_3 u__law_after_4) u__law_after_2
def u__law_after_0 : Ss := .cons (.own 2 (.prm .dict (.cons (.var 0) .nil))) u__law_after_1
def t__law_after : Ss := u__law_after_0
abbrev f__law_after : FDef := ⟨2, 3, t__law_after⟩
def u__law_key_0 : Ss := .cons (.ret (.call F_law_draw (Str.ofString "_law_draw") (.cons (.var 0) (.cons (.idx (.tup (.cons (.int 12) (.cons (.int 40) (.cons (.int 100) .nil)))) (.call F_law_draw (Str.ofString "_law_draw") (.cons (.var 0) (.cons (.int 3) .nil)))) .nil)))) .nil
def t__law_key : Ss := u__law_key_0
abbrev f__law_key : FDef := ⟨1, 1, t__law_key⟩
def u_moved_up_1 : Ss := .cons (.ret (.ife (.isn (.var 2)) (.var 0) (.call Fput_fronts (Str.ofString "put_fronts") (.cons (.var 0) (.cons (.var 1) (.cons (.var 2) .nil)))))) .nil
def u_moved_up_0 : Ss := .cons (.set 2 (.call Flook (Str.ofString "look") (.cons (.var 0) (.cons (.var 1) .nil)))) u_moved_up_1
def t_moved_up : Ss := u_moved_up_0
abbrev f_moved_up : FDef := ⟨2, 3, t_moved_up⟩
def u_turned_up_9 : Ss := .cons (.ret (.var 0)) .nil
def u_turned_up_8 : Ss := .cons (.set 3 (.call Fabove_two (Str.ofString "above_two") (.cons (.var 3) (.cons (.var 4) (.cons (.var 5) (.cons (.var 6) (.cons (.var 7) .nil))))))) .nil
def u_turned_up_7 : Ss := .cons (.tpl [6, 7] (.met .pop0 2 .nil)) u_turned_up_8
def u_turned_up_6 : Ss := .cons (.tpl [4, 5] (.met .pop0 2 .nil)) u_turned_up_7
def u_turned_up_5 : Ss := .cons (.set 3 (.idx (.met .pop0 2 .nil) (.int 0))) .nil
def u_turned_up_4 : Ss := .cons (.iff (.cmp .eq (.prm .len (.cons (.var 2) .nil)) (.int 0)) u_turned_up_9 .nil) u_turned_up_5
def u_turned_up_3 : Ss := .cons (.ret (.ife (.cmp .eq (.prm .len (.cons (.var 2) .nil)) (.int 1)) (.call Fabove (Str.ofString "above") (.cons (.var 3) (.cons (.idx (.idx (.var 2) (.int 0)) (.int 0)) (.cons (.idx (.idx (.var 2) (.int 0)) (.int 1)) .nil)))) (.var 3))) .nil
def u_turned_up_2 : Ss := .cons (.whl (.cmp .gt (.prm .len (.cons (.var 2) .nil)) (.int 1)) u_turned_up_6) u_turned_up_3
def u_turned_up_1 : Ss := .cons (.iff (.cmp .eq (.prm .len (.cons (.var 3) .nil)) (.int 0)) u_turned_up_4 .nil) u_turned_up_2
def u_turned_up_0 : Ss := .cons (.tpo 2 3 (.call Fway_to (Str.ofString "way_to") (.cons (.var 0) (.cons (.var 1) .nil)))) u_turned_up_1
def t_turned_up : Ss := u_turned_up_0
abbrev f_turned_up : FDef := ⟨2, 8, t_turned_up⟩
def u_put_fronts_0 : Ss := .cons (.ret (.bin .add (.tup (.cons (.tup (.cons (.var 1) (.cons (.var 2) .nil))) .nil)) (.call Fdrop_fronts (Str.ofString "drop_fronts") (.cons (.var 0) (.cons (.var 1) .nil))))) .nil
def t_put_fronts : Ss := u_put_fronts_0
abbrev f_put_fronts : FDef := ⟨3, 3, t_put_fronts⟩
def u_put_turntrees_0 : Ss := .cons (.ret (.call Fturned_up (Str.ofString "turned_up") (.cons (.call Fput_plaintrees (Str.ofString "put_plaintrees") (.cons (.var 0) (.cons (.var 1) (.cons (.var 2) .nil)))) (.cons (.var 1) .nil)))) .nil
def t_put_turntrees : Ss := u_put_turntrees_0
abbrev f_put_turntrees : FDef := ⟨3, 3, t_put_turntrees⟩
def u_put_zippers_1 : Ss := .cons (.ret (.tup (.cons (.var 3) (.cons (.bin .add (.tup (.cons (.tup (.cons (.var 1) (.cons (.var 2) .nil))) .nil)) (.ife (.call Fhas_key (Str.ofString "has_key") (.cons (.tup (.cons (.var 3) (.cons (.var 4) .nil))) (.cons (.var 1) .nil))) (.slc (.var 4) (.some (.int 1)) .none) (.var 4))) .nil)))) .nil
def u_put_zippers_0 : Ss := .cons (.tpl [3, 4] (.call Fopened (Str.ofString "opened") (.cons (.var 0) (.cons (.var 1) .nil)))) u_put_zippers_1
def t_put_zippers : Ss := u_put_zippers_0
abbrev f_put_zippers : FDef := ⟨3, 5, t_put_zippers⟩
def e_drop_fronts_0 : E := (.var 2)
def q_drop_fronts_0 : Oe := (.some (.cmp .ne (.idx (.var 2) (.int 0)) (.var 1)))
def u_drop_fronts_0 : Ss := .cons (.ret (.prm .tuple (.cons (.comp [2] e_drop_fronts_0 (.n 2) (.e (.var 0)) q_drop_fronts_0) .nil))) .nil
def t_drop_fronts : Ss := u_drop_fronts_0
abbrev f_drop_fronts : FDef := ⟨2, 3, t_drop_fronts⟩
def u_drop_turntrees_6 : Ss := .cons (.ret (.idx (.var 2) (.int 3))) .nil
def u_drop_turntrees_5 : Ss := .cons (.ret (.var 2)) .nil
def u_drop_turntrees_4 : Ss := .cons (.ret (.bin .add (.slc (.var 3) .none (.some (.int 3))) (.tup (.cons (.idx (.var 2) (.int 3)) .nil)))) .nil
def u_drop_turntrees_3 : Ss := .cons (.set 3 (.call Fturned_up (Str.ofString "turned_up") (.cons (.idx (.var 2) (.int 2)) (.cons (.var 1) .nil)))) u_drop_turntrees_4
def u_drop_turntrees_2 : Ss := .cons (.iff (.cmp .eq (.prm .len (.cons (.idx (.var 2) (.int 2)) .nil)) (.int 0)) u_drop_turntrees_6 .nil) u_drop_turntrees_3
def u_drop_turntrees_1 : Ss := .cons (.iff (.or (.cmp .eq (.prm .len (.cons (.var 2) .nil)) (.int 0)) (.cmp .ne (.idx (.var 2) (.int 0)) (.var 1))) u_drop_turntrees_5 .nil) u_drop_turntrees_2
def u_drop_turntrees_0 : Ss := .cons (.set 2 (.call Fturned_up (Str.ofString "turned_up") (.cons (.var 0) (.cons (.var 1) .nil)))) u_drop_turntrees_1
def t_drop_turntrees : Ss := u_drop_turntrees_0
abbrev f_drop_turntrees : FDef := ⟨2, 4, t_drop_turntrees⟩
def u_drop_zippers_1 : Ss := .cons (.ret (.tup (.cons (.var 2) (.cons (.ife (.call Fhas_key (Str.ofString "has_key") (.cons (.tup (.cons (.var 2) (.cons (.var 3) .nil))) (.cons (.var 1) .nil))) (.slc (.var 3) (.some (.int 1)) .none) (.var 3)) .nil)))) .nil
def u_drop_zippers_0 : Ss := .cons (.tpl [2, 3] (.call Fopened (Str.ofString "opened") (.cons (.var 0) (.cons (.var 1) .nil)))) u_drop_zippers_1
def t_drop_zippers : Ss := u_drop_zippers_0
abbrev f_drop_zippers : FDef := ⟨2, 4, t_drop_zippers⟩
def e__law_same_0 : E := (.var 2)
def q__law_same_0 : Oe := (.some (.not (.call F_law_same (Str.ofString "_law_same") (.cons (.idx (.var 0) (.var 2)) (.cons (.idx (.var 1) (.var 2)) .nil)))))
def u__law_same_10 : Ss := .cons (.ret (.bl false)) .nil
def u__law_same_9 : Ss := .cons (.ret (.and (.isi (.var 0) .int) (.cmp .eq (.var 0) (.var 1)))) .nil
def u__law_same_8 : Ss := .cons (.ret (.and (.isi (.var 1) .bool) (.and (.isi (.var 0) .bool) (.cmp .eq (.var 0) (.var 1))))) .nil
def u__law_same_7 : Ss := .cons (.ret (.isn (.var 0))) .nil
def u__law_same_6 : Ss := .cons (.ret (.cmp .eq (.prm .len (.cons (.comp [2] e__law_same_0 (.n 2) (.r1 (.prm .len (.cons (.var 1) .nil))) q__law_same_0) .nil)) (.int 0))) .nil
def u__law_same_5 : Ss := .cons (.iff (.or (.cmp .ne (.isi (.var 1) .tuple) (.isi (.var 0) .tuple)) (.or (.cmp .ne (.isi (.var 1) .list) (.isi (.var 0) .list)) (.cmp .ne (.prm .len (.cons (.var 0) .nil)) (.prm .len (.cons (.var 1) .nil))))) u__law_same_10 .nil) u__law_same_6
def u__law_same_4 : Ss := .cons (.ret (.and (.isi (.var 0) .str) (.and (.isi (.var 1) .str) (.cmp .eq (.var 0) (.var 1))))) .nil
def u__law_same_3 : Ss := .cons (.iff (.isi (.var 1) .int) u__law_same_9 .nil) u__law_same_4
def u__law_same_2 : Ss := .cons (.iff (.or (.isi (.var 1) .bool) (.isi (.var 0) .bool)) u__law_same_8 .nil) u__law_same_3
def u__law_same_1 : Ss := .cons (.iff (.isn (.var 1)) u__law_same_7 .nil) u__law_same_2
def u__law_same_0 : Ss := .cons (.iff (.or (.isi (.var 1) .tuple) (.isi (.var 1) .list)) u__law_same_5 .nil) u__law_same_1
def t__law_same : Ss := u__law_same_0
abbrev f__law_same : FDef := ⟨2, 3, t__law_same⟩
def u_rows_fronts_0 : Ss := .cons (.ret (.prm .tuple (.cons (.prm .sortP (.cons (.var 0) .nil)) .nil))) .nil
def t_rows_fronts : Ss := u_rows_fronts_0
abbrev f_rows_fronts : FDef := ⟨1, 1, t_rows_fronts⟩
def u_rows_turntrees_0 : Ss := .cons (.ret (.call Ftree_rows (Str.ofString "tree_rows") (.cons (.var 0) .nil))) .nil
def t_rows_turntrees : Ss := u_rows_turntrees_0
abbrev f_rows_turntrees : FDef := ⟨1, 1, t_rows_turntrees⟩
def u_rows_zippers_0 : Ss := .cons (.ret (.bin .add (.idx (.var 0) (.int 0)) (.idx (.var 0) (.int 1)))) .nil
def t_rows_zippers : Ss := u_rows_zippers_0
abbrev f_rows_zippers : FDef := ⟨1, 1, t_rows_zippers⟩
def e__law_pairs_0 : E := (.tup (.cons (.var 1) (.cons (.idx (.var 0) (.var 1)) .nil)))
def q__law_pairs_0 : Oe := .none
def u__law_pairs_0 : Ss := .cons (.ret (.prm .tuple (.cons (.comp [1] e__law_pairs_0 (.n 1) (.e (.prm .sorted (.cons (.prm .list (.cons (.var 0) .nil)) .nil))) q__law_pairs_0) .nil))) .nil
def t__law_pairs : Ss := u__law_pairs_0
abbrev f__law_pairs : FDef := ⟨1, 2, t__law_pairs⟩
def u__law_spread_5 : Ss := .cons (.set 2 (.bin .add (.bin .mul (.var 2) (.int 2147483647)) (.var 1))) .nil
def u__law_spread_4 : Ss := .cons (.set 1 (.bin .mod (.prm .int (.cons (.bin .add (.bin .add (.bin .mul (.var 1) (.int 48271)) (.int 12345)) (.var 3)) .nil)) (.int 2147483647))) u__law_spread_5
def u__law_spread_3 : Ss := .cons (.ret (.var 2)) .nil
def u__law_spread_2 : Ss := .cons (.for (.n 3) (.r1 (.int 4)) u__law_spread_4) u__law_spread_3
def u__law_spread_1 : Ss := .cons (.set 2 (.int 1)) u__law_spread_2
def u__law_spread_0 : Ss := .cons (.set 1 (.bin .mod (.prm .int (.cons (.var 0) .nil)) (.int 2147483647))) u__law_spread_1
def t__law_spread : Ss := u__law_spread_0
abbrev f__law_spread : FDef := ⟨1, 4, t__law_spread⟩
def u_look_3 : Ss := .cons (.ret (.var 3)) .nil
def u_look_2 : Ss := .cons (.iff (.cmp .eq (.var 2) (.var 1)) u_look_3 .nil) .nil
def u_look_1 : Ss := .cons (.ret .non) .nil
def u_look_0 : Ss := .cons (.for (.t [2, 3]) (.e (.var 0)) u_look_2) u_look_1
def t_look : Ss := u_look_0
abbrev f_look : FDef := ⟨2, 4, t_look⟩
def u_way_to_6 : Ss := .cons (.set 3 (.idx (.var 3) (.var 4))) .nil
def u_way_to_5 : Ss := .cons (.exp (.met .append 2 (.cons (.tup (.cons (.var 3) (.cons (.var 4) .nil))) .nil))) u_way_to_6
def u_way_to_4 : Ss := .cons (.set 4 (.ife (.cmp .lt (.var 1) (.idx (.var 3) (.int 0))) (.int 2) (.int 3))) u_way_to_5
def u_way_to_3 : Ss := .cons (.rtm 2 (.var 3)) .nil
def u_way_to_2 : Ss := .cons (.whl (.and (.cmp .gt (.prm .len (.cons (.var 3) .nil)) (.int 0)) (.cmp .ne (.idx (.var 3) (.int 0)) (.var 1))) u_way_to_4) u_way_to_3
def u_way_to_1 : Ss := .cons (.set 3 (.var 0)) u_way_to_2
def u_way_to_0 : Ss := .cons (.own 2 (.lst .nil)) u_way_to_1
def t_way_to : Ss := u_way_to_0
abbrev f_way_to : FDef := ⟨2, 5, t_way_to⟩
def u_above_two_2 : Ss := .cons (.ret (.call Fabove (Str.ofString "above") (.cons (.call Fabove (Str.ofString "above") (.cons (.var 0) (.cons (.var 1) (.cons (.var 2) .nil)))) (.cons (.var 3) (.cons (.var 4) .nil))))) .nil
def u_above_two_1 : Ss := .cons (.ret (.call Fabove (Str.ofString "above") (.cons (.var 0) (.cons (.call Fabove (Str.ofString "above") (.cons (.var 1) (.cons (.var 3) (.cons (.var 2) .nil)))) (.cons (.var 2) .nil))))) .nil
def u_above_two_0 : Ss := .cons (.iff (.cmp .ne (.var 2) (.var 4)) u_above_two_2 .nil) u_above_two_1
def t_above_two : Ss := u_above_two_0
abbrev f_above_two : FDef := ⟨5, 5, t_above_two⟩
def u_above_2 : Ss := .cons (.ret (.bin .add (.slc (.var 0) .none (.some (.int 3))) (.tup (.cons (.bin .add (.slc (.var 1) .none (.some (.int 2))) (.tup (.cons (.idx (.var 0) (.int 3)) (.cons (.idx (.var 1) (.int 3)) .nil)))) .nil)))) .nil
def u_above_1 : Ss := .cons (.ret (.bin .add (.slc (.var 0) .none (.some (.int 2))) (.tup (.cons (.bin .add (.slc (.var 1) .none (.some (.int 2))) (.tup (.cons (.idx (.var 1) (.int 2)) (.cons (.idx (.var 0) (.int 2)) .nil)))) (.cons (.idx (.var 0) (.int 3)) .nil))))) .nil
def u_above_0 : Ss := .cons (.iff (.cmp .eq (.var 2) (.int 2)) u_above_2 .nil) u_above_1
def t_above : Ss := u_above_0
abbrev f_above : FDef := ⟨3, 3, t_above⟩
def u_put_plaintrees_2 : Ss := .cons (.ret (.call Fset_back (Str.ofString "set_back") (.cons (.var 3) (.cons (.call Fknot_of (Str.ofString "knot_of") (.cons (.var 5) (.cons (.tup (.cons (.var 1) (.cons (.var 2) .nil))) (.cons (.var 6) .nil)))) .nil)))) .nil
def u_put_plaintrees_1 : Ss := .cons (.tpl [5, 6] (.ife (.cmp .gt (.prm .len (.cons (.var 4) .nil)) (.int 0)) (.tup (.cons (.idx (.var 4) (.int 2)) (.cons (.idx (.var 4) (.int 3)) .nil))) (.tup (.cons (.tup .nil) (.cons (.tup .nil) .nil))))) u_put_plaintrees_2
def u_put_plaintrees_0 : Ss := .cons (.tpo 3 4 (.call Fway_to (Str.ofString "way_to") (.cons (.var 0) (.cons (.var 1) .nil)))) u_put_plaintrees_1
def t_put_plaintrees : Ss := u_put_plaintrees_0
abbrev f_put_plaintrees : FDef := ⟨3, 7, t_put_plaintrees⟩
def u_opened_5 : Ss := .cons (.par 2 3 (.bin .add (.var 2) (.slc (.var 3) .none (.some (.int 1)))) (.slc (.var 3) (.some (.int 1)) .none)) .nil
def u_opened_4 : Ss := .cons (.par 2 3 (.slc (.var 2) .none (.some (.neg (.int 1)))) (.bin .add (.slc (.var 2) (.some (.neg (.int 1))) .none) (.var 3))) .nil
def u_opened_3 : Ss := .cons (.ret (.tup (.cons (.var 2) (.cons (.var 3) .nil)))) .nil
def u_opened_2 : Ss := .cons (.whl (.and (.cmp .gt (.prm .len (.cons (.var 3) .nil)) (.int 0)) (.cmp .lt (.idx (.idx (.var 3) (.int 0)) (.int 0)) (.var 1))) u_opened_5) u_opened_3
def u_opened_1 : Ss := .cons (.whl (.and (.cmp .gt (.prm .len (.cons (.var 2) .nil)) (.int 0)) (.cmp .ge (.idx (.idx (.var 2) (.neg (.int 1))) (.int 0)) (.var 1))) u_opened_4) u_opened_2
def u_opened_0 : Ss := .cons (.tpl [2, 3] (.var 0)) u_opened_1
def t_opened : Ss := u_opened_0
abbrev f_opened : FDef := ⟨2, 4, t_opened⟩
def u_has_key_0 : Ss := .cons (.ret (.and (.cmp .gt (.prm .len (.cons (.idx (.var 0) (.int 1)) .nil)) (.int 0)) (.cmp .eq (.idx (.idx (.idx (.var 0) (.int 1)) (.int 0)) (.int 0)) (.var 1)))) .nil
def t_has_key : Ss := u_has_key_0
abbrev f_has_key : FDef := ⟨2, 2, t_has_key⟩
def u_tree_rows_10 : Ss := .cons (.set 3 (.idx (.var 3) (.int 2))) .nil
def u_tree_rows_9 : Ss := .cons (.exp (.met .append 2 (.cons (.var 3) .nil))) u_tree_rows_10
def u_tree_rows_8 : Ss := .cons (.set 3 (.idx (.var 4) (.int 3))) .nil
def u_tree_rows_7 : Ss := .cons (.exp (.met .append 1 (.cons (.slc (.var 4) .none (.some (.int 2))) .nil))) u_tree_rows_8
def u_tree_rows_6 : Ss := .cons (.set 4 (.met .pop0 2 .nil)) u_tree_rows_7
def u_tree_rows_5 : Ss := .cons (.whl (.cmp .gt (.prm .len (.cons (.var 3) .nil)) (.int 0)) u_tree_rows_9) u_tree_rows_6
def u_tree_rows_4 : Ss := .cons (.ret (.prm .tuple (.cons (.var 1) .nil))) .nil
def u_tree_rows_3 : Ss := .cons (.whl (.or (.cmp .gt (.prm .len (.cons (.var 3) .nil)) (.int 0)) (.cmp .gt (.prm .len (.cons (.var 2) .nil)) (.int 0))) u_tree_rows_5) u_tree_rows_4
def u_tree_rows_2 : Ss := .cons (.set 3 (.var 0)) u_tree_rows_3
def u_tree_rows_1 : Ss := .cons (.own 2 (.lst .nil)) u_tree_rows_2
def u_tree_rows_0 : Ss := .cons (.own 1 (.lst .nil)) u_tree_rows_1
def t_tree_rows : Ss := u_tree_rows_0
abbrev f_tree_rows : FDef := ⟨1, 5, t_tree_rows⟩
def u_set_back_2 : Ss := .cons (.set 1 (.bin .add (.bin .add (.slc (.var 2) .none (.some (.var 3))) (.tup (.cons (.var 1) .nil))) (.slc (.var 2) (.some (.bin .add (.var 3) (.int 1))) .none))) .nil
def u_set_back_1 : Ss := .cons (.ret (.var 1)) .nil
def u_set_back_0 : Ss := .cons (.for (.t [2, 3]) (.e (.rev (.var 0))) u_set_back_2) u_set_back_1
def t_set_back : Ss := u_set_back_0
abbrev f_set_back : FDef := ⟨2, 4, t_set_back⟩
def u_knot_of_0 : Ss := .cons (.ret (.bin .add (.var 1) (.tup (.cons (.var 0) (.cons (.var 2) .nil))))) .nil
def t_knot_of : Ss := u_knot_of_0
abbrev f_knot_of : FDef := ⟨3, 3, t_knot_of⟩
def fs : List FDef := [f_law, f__law_pool, f__law_deeds, f_empty_fronts, f_empty_turntrees, f_empty_zippers, f__law_draw, f__law_after, f__law_key, f_moved_up, f_turned_up, f_put_fronts, f_put_turntrees, f_put_zippers, f_drop_fronts, f_drop_turntrees, f_drop_zippers, f__law_same, f_rows_fronts, f_rows_turntrees, f_rows_zippers, f__law_pairs, f__law_spread, f_look, f_way_to, f_above_two, f_above, f_put_plaintrees, f_opened, f_has_key, f_tree_rows, f_set_back, f_knot_of]
def T : Nat → Option FDef := fun i => fs[i]?
theorem run_law (n : Nat) (ss : List SV) : run T (n + 1) Flaw ss = runD (run T n) f_law ss := rfl
theorem run__law_pool (n : Nat) (ss : List SV) : run T (n + 1) F_law_pool ss = runD (run T n) f__law_pool ss := rfl
theorem run__law_deeds (n : Nat) (ss : List SV) : run T (n + 1) F_law_deeds ss = runD (run T n) f__law_deeds ss := rfl
theorem run_empty_fronts (n : Nat) (ss : List SV) : run T (n + 1) Fempty_fronts ss = runD (run T n) f_empty_fronts ss := rfl
theorem run_empty_turntrees (n : Nat) (ss : List SV) : run T (n + 1) Fempty_turntrees ss = runD (run T n) f_empty_turntrees ss := rfl
theorem run_empty_zippers (n : Nat) (ss : List SV) : run T (n + 1) Fempty_zippers ss = runD (run T n) f_empty_zippers ss := rfl
theorem run__law_draw (n : Nat) (ss : List SV) : run T (n + 1) F_law_draw ss = runD (run T n) f__law_draw ss := rfl
theorem run__law_after (n : Nat) (ss : List SV) : run T (n + 1) F_law_after ss = runD (run T n) f__law_after ss := rfl
theorem run__law_key (n : Nat) (ss : List SV) : run T (n + 1) F_law_key ss = runD (run T n) f__law_key ss := rfl
theorem run_moved_up (n : Nat) (ss : List SV) : run T (n + 1) Fmoved_up ss = runD (run T n) f_moved_up ss := rfl
theorem run_turned_up (n : Nat) (ss : List SV) : run T (n + 1) Fturned_up ss = runD (run T n) f_turned_up ss := rfl
theorem run_put_fronts (n : Nat) (ss : List SV) : run T (n + 1) Fput_fronts ss = runD (run T n) f_put_fronts ss := rfl
theorem run_put_turntrees (n : Nat) (ss : List SV) : run T (n + 1) Fput_turntrees ss = runD (run T n) f_put_turntrees ss := rfl
theorem run_put_zippers (n : Nat) (ss : List SV) : run T (n + 1) Fput_zippers ss = runD (run T n) f_put_zippers ss := rfl
theorem run_drop_fronts (n : Nat) (ss : List SV) : run T (n + 1) Fdrop_fronts ss = runD (run T n) f_drop_fronts ss := rfl
theorem run_drop_turntrees (n : Nat) (ss : List SV) : run T (n + 1) Fdrop_turntrees ss = runD (run T n) f_drop_turntrees ss := rfl
theorem run_drop_zippers (n : Nat) (ss : List SV) : run T (n + 1) Fdrop_zippers ss = runD (run T n) f_drop_zippers ss := rfl
theorem run__law_same (n : Nat) (ss : List SV) : run T (n + 1) F_law_same ss = runD (run T n) f__law_same ss := rfl
theorem run_rows_fronts (n : Nat) (ss : List SV) : run T (n + 1) Frows_fronts ss = runD (run T n) f_rows_fronts ss := rfl
theorem run_rows_turntrees (n : Nat) (ss : List SV) : run T (n + 1) Frows_turntrees ss = runD (run T n) f_rows_turntrees ss := rfl
theorem run_rows_zippers (n : Nat) (ss : List SV) : run T (n + 1) Frows_zippers ss = runD (run T n) f_rows_zippers ss := rfl
theorem run__law_pairs (n : Nat) (ss : List SV) : run T (n + 1) F_law_pairs ss = runD (run T n) f__law_pairs ss := rfl
theorem run__law_spread (n : Nat) (ss : List SV) : run T (n + 1) F_law_spread ss = runD (run T n) f__law_spread ss := rfl
theorem run_look (n : Nat) (ss : List SV) : run T (n + 1) Flook ss = runD (run T n) f_look ss := rfl
theorem run_way_to (n : Nat) (ss : List SV) : run T (n + 1) Fway_to ss = runD (run T n) f_way_to ss := rfl
theorem run_above_two (n : Nat) (ss : List SV) : run T (n + 1) Fabove_two ss = runD (run T n) f_above_two ss := rfl
theorem run_above (n : Nat) (ss : List SV) : run T (n + 1) Fabove ss = runD (run T n) f_above ss := rfl
theorem run_put_plaintrees (n : Nat) (ss : List SV) : run T (n + 1) Fput_plaintrees ss = runD (run T n) f_put_plaintrees ss := rfl
theorem run_opened (n : Nat) (ss : List SV) : run T (n + 1) Fopened ss = runD (run T n) f_opened ss := rfl
theorem run_has_key (n : Nat) (ss : List SV) : run T (n + 1) Fhas_key ss = runD (run T n) f_has_key ss := rfl
theorem run_tree_rows (n : Nat) (ss : List SV) : run T (n + 1) Ftree_rows ss = runD (run T n) f_tree_rows ss := rfl
theorem run_set_back (n : Nat) (ss : List SV) : run T (n + 1) Fset_back ss = runD (run T n) f_set_back ss := rfl
theorem run_knot_of (n : Nat) (ss : List SV) : run T (n + 1) Fknot_of ss = runD (run T n) f_knot_of ss := rfl
/-! the drawing pool -/
abbrev poolL (ns : List Int) (p1 : Nat) (p2 p3 p4 : Int) : MO := .l [.list (ns.map .int), .int p1, .int p2, .int p3, .int p4]
def PoolOk (o : MO) : Prop := ∃ (ns : List Int) (p1 : Nat) (p2 p3 p4 : Int), o = poolL ns p1 p2 p3 p4
theorem s_spread (n : Nat) (h : 1 ≤ n) (i : Int) : ∃ r, run T n F_law_spread [.v (.int i)] = .ok (.v (.int r), []) := by
  obtain ⟨n, rfl⟩ := ex_add h
  rw [run__law_spread]
  simp only [f__law_spread, t__law_spread, u__law_spread_0, u__law_spread_1, u__law_spread_2, u__law_spread_3, u__law_spread_4, u__law_spread_5, ro_w, ro_x, ro_y, ro_0, ro_1, ro_2, ro_3, ro_4, ro_5, ro_6, ro_7, ro_8, ro_9, ro_10, ro_11, ro_12, ro_13, ro_14, ro_15, ro_16, ro_17, ro_18, ro_19, ro_20, ro_21, ro_22, ro_23, List.length_map, reduceIte, reduceCtorEq, Bool.false_eq_true, Bool.not_true, Bool.not_false, Bool.true_and, Bool.and_true, Bool.false_and, Bool.and_false, decide_eq_true_eq, decide_true, decide_false, Bool.or_true, Bool.true_or, Bool.or_false, Bool.false_or, Bool.not_eq_true', decide_eq_false_iff_not, not_true_eq_false, not_false_eq_true, and_self, and_true, true_and, or_true, true_or, or_false, false_or, ne_eq, eq_self, Int.ofNat_lt, Int.ofNat_le, Nat.reduceSub, Nat.reduceAdd, Nat.reduceLT, Nat.reduceLeDiff, Nat.reduceEqDiff, Int.reduceLT, Int.reduceLE, Int.reduceAdd, Int.reduceSub, Int.reduceNeg, Int.reduceMul, Int.reducePow, Nat.reducePow, Int.reduceMod, Int.reduceDiv, Int.reduceToNat, Int.reduceEq, Nat.reduceMul, Int.reduceNegSucc, Nat.zero_le, ro_non, rngL, smallI, forR, List.range, List.range.loop]
  exact ⟨_, rfl⟩
theorem s_draw (n : Nat) (h : 2 ≤ n) (o : MO) (ho : PoolOk o) (m : Int) (h0 : 0 < m) (h1 : m < 1073741824) : ∃ (r : Nat) (o' : MO), PoolOk o' ∧ (r : Int) < m ∧ run T n F_law_draw [.p o, .v (.int m)] = .ok (.v (.int r), [o']) := by
  obtain ⟨n, rfl⟩ := ex_add h
  obtain ⟨ns, p1, p2, p3, p4, rfl⟩ := ho
  rw [run__law_draw]
  have fin : ∀ {x : Int} {ns' : List Int} {p1' : Nat} {p2' p3' p4' : Int}, runD (run T (n + 1)) f__law_draw [.p (poolL ns p1 p2 p3 p4), .v (.int m)] = .ok (.v (.int (x % m)), [poolL ns' p1' p2' p3' p4']) →
      ∃ (r : Nat) (o' : MO), PoolOk o' ∧ (r : Int) < m ∧ runD (run T (n + 1)) f__law_draw [.p (poolL ns p1 p2 p3 p4), .v (.int m)] = .ok (.v (.int r), [o']) := fun {x ns' p1' p2' p3' p4'} e => by
    obtain ⟨r, hr⟩ := Int.eq_ofNat_of_zero_le (Int.emod_nonneg x (by omega : m ≠ 0))
    rw [hr] at e
    exact ⟨r, _, ⟨_, _, _, _, _, rfl⟩, by rw [← hr]; exact Int.emod_lt_of_pos _ h0, e⟩
  by_cases hp : p2 ≤ 0
  · by_cases hl : p1 < ns.length
    · have hc := atI_ints hl
      by_cases hs : ns[p1] < 1000000000000000000
      · obtain ⟨r, hr⟩ := s_spread (n + 1) (by omega) ns[p1]
        by_cases hq : r ≤ 0
        · refine fin (x := ((p4 * 48271 + (p3 + 1) * 69621 + 1) % 2147483647 * 16807 + (p3 + 1)) % 2147483629 / 5) (ns' := ns) (p1' := p1 + 1) (p2' := r) (p3' := p3 + 1) (p4' := p4) ?_
          simp only [f__law_draw, t__law_draw, u__law_draw_0, u__law_draw_1, u__law_draw_2, u__law_draw_3, u__law_draw_4, u__law_draw_5, u__law_draw_6, u__law_draw_7, u__law_draw_8, u__law_draw_9, u__law_draw_10, u__law_draw_11, u__law_draw_12, u__law_draw_13, ro_w, ro_x, ro_y, ro_0, ro_1, ro_2, ro_3, ro_4, ro_5, ro_6, ro_7, ro_8, ro_9, ro_10, ro_11, ro_12, ro_13, ro_14, ro_15, ro_16, ro_17, ro_18, ro_19, ro_20, ro_21, ro_22, ro_23, List.length_map, reduceIte, reduceCtorEq, Bool.false_eq_true, Bool.not_true, Bool.not_false, Bool.true_and, Bool.and_true, Bool.false_and, Bool.and_false, decide_eq_true_eq, decide_true, decide_false, Bool.or_true, Bool.true_or, Bool.or_false, Bool.false_or, Bool.not_eq_true', decide_eq_false_iff_not, not_true_eq_false, not_false_eq_true, and_self, and_true, true_and, or_true, true_or, or_false, false_or, ne_eq, eq_self, Int.ofNat_lt, Int.ofNat_le, Nat.reduceSub, Nat.reduceAdd, Nat.reduceLT, Nat.reduceLeDiff, Nat.reduceEqDiff, Int.reduceLT, Int.reduceLE, Int.reduceAdd, Int.reduceSub, Int.reduceNeg, Int.reduceMul, Int.reducePow, Nat.reducePow, Int.reduceMod, Int.reduceDiv, Int.reduceToNat, Int.reduceEq, Nat.reduceMul, Int.reduceNegSucc, Nat.zero_le, ro_non, MO.data, hp, hl, hc, hs, hr, hq, h0, h1] <;> rfl
        · refine fin (x := r) (ns' := ns) (p1' := p1 + 1) (p2' := r / m) (p3' := p3 + 1) (p4' := p4) ?_
          simp only [f__law_draw, t__law_draw, u__law_draw_0, u__law_draw_1, u__law_draw_2, u__law_draw_3, u__law_draw_4, u__law_draw_5, u__law_draw_6, u__law_draw_7, u__law_draw_8, u__law_draw_9, u__law_draw_10, u__law_draw_11, u__law_draw_12, u__law_draw_13, ro_w, ro_x, ro_y, ro_0, ro_1, ro_2, ro_3, ro_4, ro_5, ro_6, ro_7, ro_8, ro_9, ro_10, ro_11, ro_12, ro_13, ro_14, ro_15, ro_16, ro_17, ro_18, ro_19, ro_20, ro_21, ro_22, ro_23, List.length_map, reduceIte, reduceCtorEq, Bool.false_eq_true, Bool.not_true, Bool.not_false, Bool.true_and, Bool.and_true, Bool.false_and, Bool.and_false, decide_eq_true_eq, decide_true, decide_false, Bool.or_true, Bool.true_or, Bool.or_false, Bool.false_or, Bool.not_eq_true', decide_eq_false_iff_not, not_true_eq_false, not_false_eq_true, and_self, and_true, true_and, or_true, true_or, or_false, false_or, ne_eq, eq_self, Int.ofNat_lt, Int.ofNat_le, Nat.reduceSub, Nat.reduceAdd, Nat.reduceLT, Nat.reduceLeDiff, Nat.reduceEqDiff, Int.reduceLT, Int.reduceLE, Int.reduceAdd, Int.reduceSub, Int.reduceNeg, Int.reduceMul, Int.reducePow, Nat.reducePow, Int.reduceMod, Int.reduceDiv, Int.reduceToNat, Int.reduceEq, Nat.reduceMul, Int.reduceNegSucc, Nat.zero_le, ro_non, MO.data, hp, hl, hc, hs, hr, hq, h0, h1] <;> rfl
      · have hq : ¬ ns[p1] ≤ 0 := by omega
        refine fin (x := ns[p1]) (ns' := ns) (p1' := p1 + 1) (p2' := ns[p1] / m) (p3' := p3 + 1) (p4' := p4) ?_
        simp only [f__law_draw, t__law_draw, u__law_draw_0, u__law_draw_1, u__law_draw_2, u__law_draw_3, u__law_draw_4, u__law_draw_5, u__law_draw_6, u__law_draw_7, u__law_draw_8, u__law_draw_9, u__law_draw_10, u__law_draw_11, u__law_draw_12, u__law_draw_13, ro_w, ro_x, ro_y, ro_0, ro_1, ro_2, ro_3, ro_4, ro_5, ro_6, ro_7, ro_8, ro_9, ro_10, ro_11, ro_12, ro_13, ro_14, ro_15, ro_16, ro_17, ro_18, ro_19, ro_20, ro_21, ro_22, ro_23, List.length_map, reduceIte, reduceCtorEq, Bool.false_eq_true, Bool.not_true, Bool.not_false, Bool.true_and, Bool.and_true, Bool.false_and, Bool.and_false, decide_eq_true_eq, decide_true, decide_false, Bool.or_true, Bool.true_or, Bool.or_false, Bool.false_or, Bool.not_eq_true', decide_eq_false_iff_not, not_true_eq_false, not_false_eq_true, and_self, and_true, true_and, or_true, true_or, or_false, false_or, ne_eq, eq_self, Int.ofNat_lt, Int.ofNat_le, Nat.reduceSub, Nat.reduceAdd, Nat.reduceLT, Nat.reduceLeDiff, Nat.reduceEqDiff, Int.reduceLT, Int.reduceLE, Int.reduceAdd, Int.reduceSub, Int.reduceNeg, Int.reduceMul, Int.reducePow, Nat.reducePow, Int.reduceMod, Int.reduceDiv, Int.reduceToNat, Int.reduceEq, Nat.reduceMul, Int.reduceNegSucc, Nat.zero_le, ro_non, MO.data, hp, hl, hc, hs, hq, h0, h1] <;> rfl
    · refine fin (x := ((p4 * 48271 + (p3 + 1) * 69621 + 1) % 2147483647 * 16807 + (p3 + 1)) % 2147483629 / 5) (ns' := ns) (p1' := p1) (p2' := p2) (p3' := p3 + 1) (p4' := p4) ?_
      simp only [f__law_draw, t__law_draw, u__law_draw_0, u__law_draw_1, u__law_draw_2, u__law_draw_3, u__law_draw_4, u__law_draw_5, u__law_draw_6, u__law_draw_7, u__law_draw_8, u__law_draw_9, u__law_draw_10, u__law_draw_11, u__law_draw_12, u__law_draw_13, ro_w, ro_x, ro_y, ro_0, ro_1, ro_2, ro_3, ro_4, ro_5, ro_6, ro_7, ro_8, ro_9, ro_10, ro_11, ro_12, ro_13, ro_14, ro_15, ro_16, ro_17, ro_18, ro_19, ro_20, ro_21, ro_22, ro_23, List.length_map, reduceIte, reduceCtorEq, Bool.false_eq_true, Bool.not_true, Bool.not_false, Bool.true_and, Bool.and_true, Bool.false_and, Bool.and_false, decide_eq_true_eq, decide_true, decide_false, Bool.or_true, Bool.true_or, Bool.or_false, Bool.false_or, Bool.not_eq_true', decide_eq_false_iff_not, not_true_eq_false, not_false_eq_true, and_self, and_true, true_and, or_true, true_or, or_false, false_or, ne_eq, eq_self, Int.ofNat_lt, Int.ofNat_le, Nat.reduceSub, Nat.reduceAdd, Nat.reduceLT, Nat.reduceLeDiff, Nat.reduceEqDiff, Int.reduceLT, Int.reduceLE, Int.reduceAdd, Int.reduceSub, Int.reduceNeg, Int.reduceMul, Int.reducePow, Nat.reducePow, Int.reduceMod, Int.reduceDiv, Int.reduceToNat, Int.reduceEq, Nat.reduceMul, Int.reduceNegSucc, Nat.zero_le, ro_non, MO.data, hp, hl, h0, h1] <;> rfl
  · refine fin (x := p2) (ns' := ns) (p1' := p1) (p2' := p2 / m) (p3' := p3 + 1) (p4' := p4) ?_
    simp only [f__law_draw, t__law_draw, u__law_draw_0, u__law_draw_1, u__law_draw_2, u__law_draw_3, u__law_draw_4, u__law_draw_5, u__law_draw_6, u__law_draw_7, u__law_draw_8, u__law_draw_9, u__law_draw_10, u__law_draw_11, u__law_draw_12, u__law_draw_13, ro_w, ro_x, ro_y, ro_0, ro_1, ro_2, ro_3, ro_4, ro_5, ro_6, ro_7, ro_8, ro_9, ro_10, ro_11, ro_12, ro_13, ro_14, ro_15, ro_16, ro_17, ro_18, ro_19, ro_20, ro_21, ro_22, ro_23, List.length_map, reduceIte, reduceCtorEq, Bool.false_eq_true, Bool.not_true, Bool.not_false, Bool.true_and, Bool.and_true, Bool.false_and, Bool.and_false, decide_eq_true_eq, decide_true, decide_false, Bool.or_true, Bool.true_or, Bool.or_false, Bool.false_or, Bool.not_eq_true', decide_eq_false_iff_not, not_true_eq_false, not_false_eq_true, and_self, and_true, true_and, or_true, true_or, or_false, false_or, ne_eq, eq_self, Int.ofNat_lt, Int.ofNat_le, Nat.reduceSub, Nat.reduceAdd, Nat.reduceLT, Nat.reduceLeDiff, Nat.reduceEqDiff, Int.reduceLT, Int.reduceLE, Int.reduceAdd, Int.reduceSub, Int.reduceNeg, Int.reduceMul, Int.reducePow, Nat.reducePow, Int.reduceMod, Int.reduceDiv, Int.reduceToNat, Int.reduceEq, Nat.reduceMul, Int.reduceNegSucc, Nat.zero_le, ro_non, MO.data, hp, h0, h1] <;> rfl
theorem s_pool (n : Nat) (h : 1 ≤ n) (ns : List Int) : ∃ o, PoolOk o ∧ run T n F_law_pool [.v (.list (ns.map .int))] = .ok (.m o, []) := by
  obtain ⟨n, rfl⟩ := ex_add h
  rw [run__law_pool]
  have sl : slcD (.list (ns.map .int)) none (some 63) = some (.m (.l ((ns.map PyData.int).take 63))) := lslc_to (k := 63)
  have loop : ∀ body, body = evSs (run T n) (.cons (.set 1 (.bin .mod (.prm .int (.cons (.bin .add (.bin .mul (.var 1) (.int 31)) (.var 2)) .nil)) (.int 1000003))) .nil) →
      ∃ (x : Int) (y : Option SV), forR (bindTg (.n 2)) body ((ns.map PyData.int).take 63) [some (.v (.list (ns.map .int))), some (.v (.int 7)), none] = .ok (.nxt [some (.v (.list (ns.map .int))), some (.v (.int x)), y]) := fun body hb => by
    obtain ⟨ρ', e, x, y, hy, hx⟩ := for_inv (bind := bindTg (.n 2)) (body := body)
      (I := fun _ ρ => ∃ (x : Int) (y : Option SV), (y.bind SV.mo) = none ∧ ρ = [some (.v (.list (ns.map .int))), some (.v (.int x)), y])
      ((ns.map PyData.int).take 63) 0 [some (.v (.list (ns.map .int))), some (.v (.int 7)), none] ⟨7, none, rfl, rfl⟩ (fun i c ρ hc ⟨x, y, hy, hρ⟩ => by
        subst hρ hb
        have hc := List.mem_of_mem_take (List.mem_of_getElem? hc)
        obtain ⟨z, _, rfl⟩ := List.mem_map.mp hc
        refine ⟨[some (.v (.list (ns.map .int))), some (.v (.int x)), some (.v (.int z))], [some (.v (.list (ns.map .int))), some (.v (.int ((x * 31 + z) % 1000003))), some (.v (.int z))], ?_, .inl ?_, _, _, rfl, rfl⟩
        · simp [bindTg, noMo, own, slot, hy]
        · simp [m_var, q_ev_2, q_ev_3, q_ev_4, q_ev_5, q_ev_6, m_tup, m_lst, q_ev_9, m_dic1, m_bin, m_neg, m_not, m_and, m_or, m_ife, m_cmp, m_chn, m_isn, m_nis, m_idx, m_slc, m_rev, m_call, m_prm, m_isi, m_met, m_comp, m_compD, m_k0, m_k1, m_a0, m_a1, m_o0, m_o1, m_c0, m_c1, m_ie, m_r1, m_r2, m_r3, m_set, m_own, m_par, m_tpl, m_sit, m_swp, m_aug, m_exp, m_iff, m_for, m_whl, m_ret, m_retN, m_brk, m_cnt, m_pss, m_ss0, m_ss1, bk_ok, bk_bad, bk2_ok, seqF_nxt, seqF_ret, seqF_brk, seqF_cnt, varR_v, varR_m, varR_p, callR_v, callR_m, revR_l, ownS_m, mvR_m, retS_v, retS_m, retS_b, cdR_d, augS_v, finR_ret, finR_nxt, finX_ok, m_run, slot, keep, look, asInt, asBool, isB, isNonD, isiD, binD, augD, primD, metD, metK, own, chg, SV.mo, SV.put, idxD, dK, kD, slcD, seqOf, smallI, atI_0, atI_1, atI_2, atI_3, atI_4, atI_5, atI_6, atI_7, atI_8, atI_9, L2.ixN, setD, cmpD, eqOk, MO.data, bindTg, noMo, wipeE, unwipe, outs, refs, argsIn, argIn, backs, List.length_map])
    subst hx
    exact ⟨x, y, e⟩
  obtain ⟨x, y, e⟩ := loop _ rfl
  refine ⟨poolL ns 0 0 0 x, ⟨ns, 0, 0, 0, x, rfl⟩, ?_⟩
  simp only [f__law_pool, t__law_pool, u__law_pool_0, u__law_pool_1, u__law_pool_2, u__law_pool_3, ro_w, ro_x, ro_y, ro_0, ro_1, ro_2, ro_3, ro_4, ro_5, ro_6, ro_7, ro_8, ro_9, ro_10, ro_11, ro_12, ro_13, ro_14, ro_15, ro_16, ro_17, ro_18, ro_19, ro_20, ro_21, ro_22, ro_23, List.length_map, reduceIte, reduceCtorEq, Bool.false_eq_true, Bool.not_true, Bool.not_false, Bool.true_and, Bool.and_true, Bool.false_and, Bool.and_false, decide_eq_true_eq, decide_true, decide_false, Bool.or_true, Bool.true_or, Bool.or_false, Bool.false_or, Bool.not_eq_true', decide_eq_false_iff_not, not_true_eq_false, not_false_eq_true, and_self, and_true, true_and, or_true, true_or, or_false, false_or, ne_eq, eq_self, Int.ofNat_lt, Int.ofNat_le, Nat.reduceSub, Nat.reduceAdd, Nat.reduceLT, Nat.reduceLeDiff, Nat.reduceEqDiff, Int.reduceLT, Int.reduceLE, Int.reduceAdd, Int.reduceSub, Int.reduceNeg, Int.reduceMul, Int.reducePow, Nat.reducePow, Int.reduceMod, Int.reduceDiv, Int.reduceToNat, Int.reduceEq, Nat.reduceMul, Int.reduceNegSucc, Nat.zero_le, ro_non, sl, e, lim] <;> rfl

/-- what a run hands on that changed the pool -/
def Bent (L D S : Nat) (r : RV) (o' : MO) : Prop := PoolOk o' ∧ ∃ w, keep r = some w ∧ nz L D w ∧ sz w ≤ S
def lits1 : List PyData := [.str (Str.ofString "x"), .bool true, .tuple [], .int 0, .int (-1), .none, .bool false, .list [], .str (Str.ofString "in"), .int 1]
/-! listed, booled -/
def listedD : Nat → PyData → PyData
  | 0, .tuple xs => .list xs
  | k + 1, .tuple xs => .tuple (xs.map (listedD k))
  | _, d => d
theorem nz_listed {L : Nat} : ∀ {k D : Nat} {d : PyData}, nz L D d → nz L D (listedD k d)
  | 0, D, .tuple xs, h => by
    obtain ⟨h1, D', rfl, h2⟩ := nz_tup h
    exact nz_ofL h1 h2
  | k + 1, D, .tuple xs, h => by
    obtain ⟨h1, D', rfl, h2⟩ := nz_tup h
    refine nz_ofT (by rw [List.length_map]; exact h1) fun x hx => ?_
    obtain ⟨y, hy, rfl⟩ := List.mem_map.mp hx
    exact nz_listed (h2 y hy)
  | 0, D, .none, h | 0, D, .bool _, h | 0, D, .int _, h | 0, D, .str _, h | 0, D, .list _, h | 0, D, .dict _, h => by simpa only [listedD] using h
  | k + 1, D, .none, h | k + 1, D, .bool _, h | k + 1, D, .int _, h | k + 1, D, .str _, h | k + 1, D, .list _, h | k + 1, D, .dict _, h => by simpa only [listedD] using h
theorem sz_listed : ∀ {k : Nat} {d : PyData}, sz (listedD k d) ≤ sz d
  | 0, .tuple xs => by simp [listedD, sz]
  | k + 1, .tuple xs => by
    simp only [listedD, sz]
    have := szs_map (f := listedD k) (xs := xs) fun x _ => sz_listed
    omega
  | 0, .none | 0, .bool _ | 0, .int _ | 0, .str _ | 0, .list _ | 0, .dict _ => by simp [listedD]
  | k + 1, .none | k + 1, .bool _ | k + 1, .int _ | k + 1, .str _ | k + 1, .list _ | k + 1, .dict _ => by simp [listedD]
def booledD : Nat → PyData → PyData
  | D + 1, .tuple xs => .tuple (xs.map (booledD D))
  | _, .int i => if i = 0 ∨ i = 1 then .bool (decide (i = 1)) else .int i
  | _, d => d
theorem nz_booled {L : Nat} : ∀ {D : Nat} {d : PyData}, nz L D d → nz L D (booledD D d)
  | 0, .tuple xs, h => by simp [nz] at h
  | D + 1, .tuple xs, h => by
    simp only [nz] at h
    simp only [booledD]
    refine nz_ofT (by rw [List.length_map]; exact h.1) fun x hx => ?_
    obtain ⟨y, hy, rfl⟩ := List.mem_map.mp hx
    exact nz_booled (h.2 y hy)
  | D, .int i, h => by
    have e : booledD D (.int i) = if i = 0 ∨ i = 1 then .bool (decide (i = 1)) else .int i := by cases D <;> rfl
    rw [e]
    split
    · simp [nz]
    · exact h
  | D, .none, h | D, .bool _, h | D, .str _, h | D, .list _, h | D, .dict _, h => by cases D <;> simpa only [booledD] using h
theorem sz_booled : ∀ {D : Nat} {d : PyData}, sz (booledD D d) ≤ sz d
  | D + 1, .tuple xs => by
    simp only [booledD, sz]
    have := szs_map (f := booledD D) (xs := xs) fun x _ => sz_booled
    omega
  | 0, .tuple xs => by simp [booledD]
  | D, .int i => by
    have e : booledD D (.int i) = if i = 0 ∨ i = 1 then .bool (decide (i = 1)) else .int i := by cases D <;> rfl
    rw [e]
    split <;> simp [sz]
  | D, .none | D, .bool _ | D, .str _ | D, .list _ | D, .dict _ => by cases D <;> simp [booledD]
theorem in01 (i : Int) : cmpD .isIn (.int i) (.tuple [.int 0, .int 1]) = some (decide (i = 0 ∨ i = 1)) := by
  show (if (flat (.int i) && [PyData.int 0, .int 1].all flat) = true then some (inD (.int i) [.int 0, .int 1]) else none) = _
  rw [if_pos (by simp [flat])]
  congr 1
  have h0 : (0 == i) = decide (i = 0) := by
    by_cases h : i = 0
    · subst h; rfl
    · simp [h, Ne.symm h]
  have h1 : (1 == i) = decide (i = 1) := by
    by_cases h : i = 1
    · subst h; rfl
    · simp [h]; omega
  simp only [inD, List.any_cons, List.any_nil, PyData.eqv, h0, h1, Bool.or_false]
  by_cases a : i = 0 <;> by_cases b : i = 1 <;> simp [a, b]
/-! two places changed about -/
theorem eq_tnil {L D : Nat} {xs : List PyData} (h : nz L D (.tuple xs)) : cmpD .eq (.tuple xs) (.tuple []) = some (decide (xs.length = 0)) := by
  rw [eq_of_lay (nz_lay h).1 (by simp [PyData.canLay0, PyData.canLayAll0]) (by simp only [PyData.depth, PyData.depthAll]; omega)]
  cases xs <;> simp [PyData.eqv, PyData.eqvAll]
theorem isi_tuple {d : PyData} : isiD .tuple d = true ↔ ∃ xs, d = .tuple xs := by
  cases d <;> simp [isiD]
theorem s_key (n : Nat) (h : 3 ≤ n) (o : MO) (ho : PoolOk o) : ∃ (k : Nat) (o' : MO), PoolOk o' ∧ k < 100 ∧ run T n F_law_key [.p o] = .ok (.v (.int k), [o']) := by
  obtain ⟨n, rfl⟩ := ex_add (show 1 ≤ n by omega)
  obtain ⟨k, o1, ho1, hk, e1⟩ := s_draw n (by omega) o ho 3 (by omega) (by omega)
  obtain ⟨x, hx, hm⟩ := atI_mem (xs := [PyData.int 12, .int 40, .int 100]) (k := k) (by simp; omega)
  obtain ⟨j, rfl, hj, hj2⟩ : ∃ j : Int, x = .int j ∧ 0 < j ∧ j ≤ 100 := by
    simp only [List.mem_cons, List.not_mem_nil, or_false] at hm
    rcases hm with rfl | rfl | rfl <;> exact ⟨_, rfl, by decide, by decide⟩
  obtain ⟨k2, o2, ho2, hk2, e2⟩ := s_draw n (by omega) o1 ho1 j (by omega) (by omega)
  refine ⟨k2, o2, ho2, by omega, ?_⟩
  rw [run__law_key]
  simp only [f__law_key, t__law_key, u__law_key_0, ro_w, ro_x, ro_y, ro_0, ro_1, ro_2, ro_3, ro_4, ro_5, ro_6, ro_7, ro_8, ro_9, ro_10, ro_11, ro_12, ro_13, ro_14, ro_15, ro_16, ro_17, ro_18, ro_19, ro_20, ro_21, ro_22, ro_23, List.length_map, reduceIte, reduceCtorEq, Bool.false_eq_true, Bool.not_true, Bool.not_false, Bool.true_and, Bool.and_true, Bool.false_and, Bool.and_false, decide_eq_true_eq, decide_true, decide_false, Bool.or_true, Bool.true_or, Bool.or_false, Bool.false_or, Bool.not_eq_true', decide_eq_false_iff_not, not_true_eq_false, not_false_eq_true, and_self, and_true, true_and, or_true, true_or, or_false, false_or, ne_eq, eq_self, Int.ofNat_lt, Int.ofNat_le, Nat.reduceSub, Nat.reduceAdd, Nat.reduceLT, Nat.reduceLeDiff, Nat.reduceEqDiff, Int.reduceLT, Int.reduceLE, Int.reduceAdd, Int.reduceSub, Int.reduceNeg, Int.reduceMul, Int.reducePow, Nat.reducePow, Int.reduceMod, Int.reduceDiv, Int.reduceToNat, Int.reduceEq, Nat.reduceMul, Int.reduceNegSucc, Nat.zero_le, ro_non, e1, e2, hx]
def deepD : Nat → PyData
  | 0 => .tuple []
  | k + 1 => .tuple [deepD k]
def oddL : List PyData := [deepD 90, .tuple [.str (Str.ofString "plan"), deepD 90, deepD 90], .none, .int 0, .int 1, .bool true, .bool false, .str (Str.ofString ""), .str (Str.ofString "x"), .tuple [], .list [], .dict [], .tuple [.tuple []], .tuple [.tuple [], .tuple []], .tuple [.int 0], .tuple [.int 1, .int 2], .tuple [.str (Str.ofString "x")], .tuple [.list []], .dict [(.str (Str.ofString "a"), .int 1)], .tuple [.none], .tuple [.tuple [.tuple []]], .int (-1)]
def oddB : PyData → Bool
  | .dict _ => true
  | d => nzb 10 95 d
theorem odd_of {d : PyData} (h : oddB d = true) : Odd 10 95 d := by
  cases d with
  | dict ks => exact .inr ⟨ks, rfl⟩
  | _ => exact .inl (nzb_ok h)
theorem odd_all : ∀ d ∈ oddL, Odd 10 95 d := fun d hd => odd_of (List.all_eq_true.mp (show oddL.all oddB = true by decide +kernel) d hd)
theorem odd_sz : ∀ d ∈ oddL, sz d ≤ 200 := fun d hd => of_decide_eq_true (List.all_eq_true.mp (show oddL.all (fun d => decide (sz d ≤ 200)) = true by decide +kernel) d hd)
/-! bends -/
def lits17 : List PyData := [.int 0, .int 1, .int 5, .int 99, .int 100, .int (-1), .none, .tuple [], .tuple [.int 3, .int 4], .tuple [.int 3, .none], .tuple [.tuple [.int 3, .int 4]], .tuple [.str (Str.ofString "fork"), .tuple [], .tuple []], .str (Str.ofString "gone"), .str (Str.ofString "x"), .bool true, .tuple [.int 7, .int 1, .tuple [], .tuple []], .tuple [.int 7, .int 1, .tuple [], .tuple [], .int 0]]
theorem all_app {P : PyData → Prop} {xs ys : List PyData} (h : ∀ x ∈ xs, P x) (h2 : ∀ x ∈ ys, P x) : ∀ x ∈ xs ++ ys, P x := fun x hx => (List.mem_append.mp hx).elim (h x) (h2 x)
theorem mem4 {P : PyData → Prop} {a b c d : PyData} (ha : P a) (hb : P b) (hc : P c) (hd : P d) : ∀ z ∈ [a, b, c, d], P z := fun z hz => by
  simp only [List.mem_cons, List.not_mem_nil, or_false] at hz
  rcases hz with rfl | rfl | rfl | rfl <;> assumption
/-! sameness and readings -/
theorem s_same {L : Nat} (hL2 : L ≤ 1000000) : ∀ (D n : Nat), D + 2 ≤ n → ∀ (v : PyData), nz L D v → run T n F_law_same [.v v, .v v] = .ok (.v (.bool true), []) := by
  have hz : lim = 16777216 := rfl
  intro D
  induction D with
  | zero =>
    intro n hn v hv
    obtain ⟨n, rfl⟩ := ex_add (show 1 ≤ n by omega)
    rw [run__law_same]
    cases v with
    | str x =>
      simp only [nz] at hv
      simp only [f__law_same, t__law_same, u__law_same_0, u__law_same_1, u__law_same_2, u__law_same_3, u__law_same_4, u__law_same_5, u__law_same_6, u__law_same_7, u__law_same_8, u__law_same_9, u__law_same_10, ro_w, ro_x, ro_y, ro_0, ro_1, ro_2, ro_3, ro_4, ro_5, ro_6, ro_7, ro_8, ro_9, ro_10, ro_11, ro_12, ro_13, ro_14, ro_15, ro_16, ro_17, ro_18, ro_19, ro_20, ro_21, ro_22, ro_23, List.length_map, reduceIte, reduceCtorEq, Bool.false_eq_true, Bool.not_true, Bool.not_false, Bool.true_and, Bool.and_true, Bool.false_and, Bool.and_false, decide_eq_true_eq, decide_true, decide_false, Bool.or_true, Bool.true_or, Bool.or_false, Bool.false_or, Bool.not_eq_true', decide_eq_false_iff_not, not_true_eq_false, not_false_eq_true, and_self, and_true, true_and, or_true, true_or, or_false, false_or, ne_eq, eq_self, Int.ofNat_lt, Int.ofNat_le, Nat.reduceSub, Nat.reduceAdd, Nat.reduceLT, Nat.reduceLeDiff, Nat.reduceEqDiff, Int.reduceLT, Int.reduceLE, Int.reduceAdd, Int.reduceSub, Int.reduceNeg, Int.reduceMul, Int.reducePow, Nat.reducePow, Int.reduceMod, Int.reduceDiv, Int.reduceToNat, Int.reduceEq, Nat.reduceMul, Int.reduceNegSucc, Nat.zero_le, ro_non, eq_ii, ne_ii, eq_ss, ne_ss, eq_bb, ne_bb, hv.2, beq_self_eq_true]
    | tuple xs => simp [nz] at hv
    | list xs => simp [nz] at hv
    | dict xs => simp [nz] at hv
    | _ => simp only [f__law_same, t__law_same, u__law_same_0, u__law_same_1, u__law_same_2, u__law_same_3, u__law_same_4, u__law_same_5, u__law_same_6, u__law_same_7, u__law_same_8, u__law_same_9, u__law_same_10, ro_w, ro_x, ro_y, ro_0, ro_1, ro_2, ro_3, ro_4, ro_5, ro_6, ro_7, ro_8, ro_9, ro_10, ro_11, ro_12, ro_13, ro_14, ro_15, ro_16, ro_17, ro_18, ro_19, ro_20, ro_21, ro_22, ro_23, List.length_map, reduceIte, reduceCtorEq, Bool.false_eq_true, Bool.not_true, Bool.not_false, Bool.true_and, Bool.and_true, Bool.false_and, Bool.and_false, decide_eq_true_eq, decide_true, decide_false, Bool.or_true, Bool.true_or, Bool.or_false, Bool.false_or, Bool.not_eq_true', decide_eq_false_iff_not, not_true_eq_false, not_false_eq_true, and_self, and_true, true_and, or_true, true_or, or_false, false_or, ne_eq, eq_self, Int.ofNat_lt, Int.ofNat_le, Nat.reduceSub, Nat.reduceAdd, Nat.reduceLT, Nat.reduceLeDiff, Nat.reduceEqDiff, Int.reduceLT, Int.reduceLE, Int.reduceAdd, Int.reduceSub, Int.reduceNeg, Int.reduceMul, Int.reducePow, Nat.reducePow, Int.reduceMod, Int.reduceDiv, Int.reduceToNat, Int.reduceEq, Nat.reduceMul, Int.reduceNegSucc, Nat.zero_le, ro_non, eq_ii, ne_ii, eq_ss, ne_ss, eq_bb, ne_bb, beq_self_eq_true]
  | succ D ih =>
    intro n hn v hv
    obtain ⟨n, rfl⟩ := ex_add (show 1 ≤ n by omega)
    rw [run__law_same]
    have key : ∀ (xs : List PyData) (v : PyData), xs.length ≤ L → (∀ x ∈ xs, nz L D x) → (v = .tuple xs ∨ v = .list xs) → compR [2] (bindTg (.n 2)) (evC (run T n) q__law_same_0) (ev (run T n) e__law_same_0) (rngL 0 xs.length) [some (.v v), some (.v v), none] [] = .ok ([], [some (.v v), some (.v v), none]) := fun xs v hl hx hv => by
      have e := comp_pure (own := [2]) (bind := bindTg (.n 2)) (cond := evC (run T n) q__law_same_0) (elt := ev (run T n) e__law_same_0) (p := fun _ => false) (f := id) (ρ := [some (.v v), some (.v v), none])
        (fun x => [some (.v v), some (.v v), some (.v x)]) (rngL 0 xs.length) [] (fun x hx' => by
          obtain ⟨i, hi, rfl⟩ := rngL_mem hx'
          have hg := atI_nat hi
          have e := ih n (by omega) xs[i] (hx _ (List.getElem_mem hi))
          refine ⟨by simp only [ro_w, ro_x, ro_y, ro_0, ro_1, ro_2, ro_3, ro_4, ro_5, ro_6, ro_7, ro_8, ro_9, ro_10, ro_11, ro_12, ro_13, ro_14, ro_15, ro_16, ro_17, ro_18, ro_19, ro_20, ro_21, ro_22, ro_23, List.length_map, reduceIte, reduceCtorEq, Bool.false_eq_true, Bool.not_true, Bool.not_false, Bool.true_and, Bool.and_true, Bool.false_and, Bool.and_false, decide_eq_true_eq, decide_true, decide_false, Bool.or_true, Bool.true_or, Bool.or_false, Bool.false_or, Bool.not_eq_true', decide_eq_false_iff_not, not_true_eq_false, not_false_eq_true, and_self, and_true, true_and, or_true, true_or, or_false, false_or, ne_eq, eq_self, Int.ofNat_lt, Int.ofNat_le, Nat.reduceSub, Nat.reduceAdd, Nat.reduceLT, Nat.reduceLeDiff, Nat.reduceEqDiff, Int.reduceLT, Int.reduceLE, Int.reduceAdd, Int.reduceSub, Int.reduceNeg, Int.reduceMul, Int.reducePow, Nat.reducePow, Int.reduceMod, Int.reduceDiv, Int.reduceToNat, Int.reduceEq, Nat.reduceMul, Int.reduceNegSucc, Nat.zero_le, ro_non], ?_, fun h => absurd h (by decide), by simp only [ro_w, ro_x, ro_y, ro_0, ro_1, ro_2, ro_3, ro_4, ro_5, ro_6, ro_7, ro_8, ro_9, ro_10, ro_11, ro_12, ro_13, ro_14, ro_15, ro_16, ro_17, ro_18, ro_19, ro_20, ro_21, ro_22, ro_23, List.length_map, reduceIte, reduceCtorEq, Bool.false_eq_true, Bool.not_true, Bool.not_false, Bool.true_and, Bool.and_true, Bool.false_and, Bool.and_false, decide_eq_true_eq, decide_true, decide_false, Bool.or_true, Bool.true_or, Bool.or_false, Bool.false_or, Bool.not_eq_true', decide_eq_false_iff_not, not_true_eq_false, not_false_eq_true, and_self, and_true, true_and, or_true, true_or, or_false, false_or, ne_eq, eq_self, Int.ofNat_lt, Int.ofNat_le, Nat.reduceSub, Nat.reduceAdd, Nat.reduceLT, Nat.reduceLeDiff, Nat.reduceEqDiff, Int.reduceLT, Int.reduceLE, Int.reduceAdd, Int.reduceSub, Int.reduceNeg, Int.reduceMul, Int.reducePow, Nat.reducePow, Int.reduceMod, Int.reduceDiv, Int.reduceToNat, Int.reduceEq, Nat.reduceMul, Int.reduceNegSucc, Nat.zero_le, ro_non]⟩
          rcases hv with rfl | rfl <;> simp only [q__law_same_0, ro_w, ro_x, ro_y, ro_0, ro_1, ro_2, ro_3, ro_4, ro_5, ro_6, ro_7, ro_8, ro_9, ro_10, ro_11, ro_12, ro_13, ro_14, ro_15, ro_16, ro_17, ro_18, ro_19, ro_20, ro_21, ro_22, ro_23, List.length_map, reduceIte, reduceCtorEq, Bool.false_eq_true, Bool.not_true, Bool.not_false, Bool.true_and, Bool.and_true, Bool.false_and, Bool.and_false, decide_eq_true_eq, decide_true, decide_false, Bool.or_true, Bool.true_or, Bool.or_false, Bool.false_or, Bool.not_eq_true', decide_eq_false_iff_not, not_true_eq_false, not_false_eq_true, and_self, and_true, true_and, or_true, true_or, or_false, false_or, ne_eq, eq_self, Int.ofNat_lt, Int.ofNat_le, Nat.reduceSub, Nat.reduceAdd, Nat.reduceLT, Nat.reduceLeDiff, Nat.reduceEqDiff, Int.reduceLT, Int.reduceLE, Int.reduceAdd, Int.reduceSub, Int.reduceNeg, Int.reduceMul, Int.reducePow, Nat.reducePow, Int.reduceMod, Int.reduceDiv, Int.reduceToNat, Int.reduceEq, Nat.reduceMul, Int.reduceNegSucc, Nat.zero_le, ro_non, Int.zero_add, hg, e]) (by rw [rngL_len, hz]; simp; omega)
      rw [List.filter_eq_nil_iff.mpr (fun _ _ => by decide)] at e
      exact e
    cases v with
    | str x =>
      simp only [nz] at hv
      simp only [f__law_same, t__law_same, u__law_same_0, u__law_same_1, u__law_same_2, u__law_same_3, u__law_same_4, u__law_same_5, u__law_same_6, u__law_same_7, u__law_same_8, u__law_same_9, u__law_same_10, ro_w, ro_x, ro_y, ro_0, ro_1, ro_2, ro_3, ro_4, ro_5, ro_6, ro_7, ro_8, ro_9, ro_10, ro_11, ro_12, ro_13, ro_14, ro_15, ro_16, ro_17, ro_18, ro_19, ro_20, ro_21, ro_22, ro_23, List.length_map, reduceIte, reduceCtorEq, Bool.false_eq_true, Bool.not_true, Bool.not_false, Bool.true_and, Bool.and_true, Bool.false_and, Bool.and_false, decide_eq_true_eq, decide_true, decide_false, Bool.or_true, Bool.true_or, Bool.or_false, Bool.false_or, Bool.not_eq_true', decide_eq_false_iff_not, not_true_eq_false, not_false_eq_true, and_self, and_true, true_and, or_true, true_or, or_false, false_or, ne_eq, eq_self, Int.ofNat_lt, Int.ofNat_le, Nat.reduceSub, Nat.reduceAdd, Nat.reduceLT, Nat.reduceLeDiff, Nat.reduceEqDiff, Int.reduceLT, Int.reduceLE, Int.reduceAdd, Int.reduceSub, Int.reduceNeg, Int.reduceMul, Int.reducePow, Nat.reducePow, Int.reduceMod, Int.reduceDiv, Int.reduceToNat, Int.reduceEq, Nat.reduceMul, Int.reduceNegSucc, Nat.zero_le, ro_non, eq_ii, ne_ii, eq_ss, ne_ss, eq_bb, ne_bb, hv.2, beq_self_eq_true]
    | tuple xs =>
      obtain ⟨hl, D', hD, hx⟩ := nz_tup hv
      obtain rfl : D' = D := by omega
      have e := key xs _ hl hx (.inl rfl)
      simp only [f__law_same, t__law_same, u__law_same_0, u__law_same_1, u__law_same_2, u__law_same_3, u__law_same_4, u__law_same_5, u__law_same_6, u__law_same_7, u__law_same_8, u__law_same_9, u__law_same_10, ro_w, ro_x, ro_y, ro_0, ro_1, ro_2, ro_3, ro_4, ro_5, ro_6, ro_7, ro_8, ro_9, ro_10, ro_11, ro_12, ro_13, ro_14, ro_15, ro_16, ro_17, ro_18, ro_19, ro_20, ro_21, ro_22, ro_23, List.length_map, reduceIte, reduceCtorEq, Bool.false_eq_true, Bool.not_true, Bool.not_false, Bool.true_and, Bool.and_true, Bool.false_and, Bool.and_false, decide_eq_true_eq, decide_true, decide_false, Bool.or_true, Bool.true_or, Bool.or_false, Bool.false_or, Bool.not_eq_true', decide_eq_false_iff_not, not_true_eq_false, not_false_eq_true, and_self, and_true, true_and, or_true, true_or, or_false, false_or, ne_eq, eq_self, Int.ofNat_lt, Int.ofNat_le, Nat.reduceSub, Nat.reduceAdd, Nat.reduceLT, Nat.reduceLeDiff, Nat.reduceEqDiff, Int.reduceLT, Int.reduceLE, Int.reduceAdd, Int.reduceSub, Int.reduceNeg, Int.reduceMul, Int.reducePow, Nat.reducePow, Int.reduceMod, Int.reduceDiv, Int.reduceToNat, Int.reduceEq, Nat.reduceMul, Int.reduceNegSucc, Nat.zero_le, ro_non, eq_ii, ne_ii, eq_ss, ne_ss, eq_bb, ne_bb, beq_self_eq_true, small_nat (show xs.length ≤ 1000000000 by omega), Int.toNat_natCast, e]
    | list xs =>
      obtain ⟨hl, D', hD, hx⟩ := nz_lst hv
      obtain rfl : D' = D := by omega
      have e := key xs _ hl hx (.inr rfl)
      simp only [f__law_same, t__law_same, u__law_same_0, u__law_same_1, u__law_same_2, u__law_same_3, u__law_same_4, u__law_same_5, u__law_same_6, u__law_same_7, u__law_same_8, u__law_same_9, u__law_same_10, ro_w, ro_x, ro_y, ro_0, ro_1, ro_2, ro_3, ro_4, ro_5, ro_6, ro_7, ro_8, ro_9, ro_10, ro_11, ro_12, ro_13, ro_14, ro_15, ro_16, ro_17, ro_18, ro_19, ro_20, ro_21, ro_22, ro_23, List.length_map, reduceIte, reduceCtorEq, Bool.false_eq_true, Bool.not_true, Bool.not_false, Bool.true_and, Bool.and_true, Bool.false_and, Bool.and_false, decide_eq_true_eq, decide_true, decide_false, Bool.or_true, Bool.true_or, Bool.or_false, Bool.false_or, Bool.not_eq_true', decide_eq_false_iff_not, not_true_eq_false, not_false_eq_true, and_self, and_true, true_and, or_true, true_or, or_false, false_or, ne_eq, eq_self, Int.ofNat_lt, Int.ofNat_le, Nat.reduceSub, Nat.reduceAdd, Nat.reduceLT, Nat.reduceLeDiff, Nat.reduceEqDiff, Int.reduceLT, Int.reduceLE, Int.reduceAdd, Int.reduceSub, Int.reduceNeg, Int.reduceMul, Int.reducePow, Nat.reducePow, Int.reduceMod, Int.reduceDiv, Int.reduceToNat, Int.reduceEq, Nat.reduceMul, Int.reduceNegSucc, Nat.zero_le, ro_non, eq_ii, ne_ii, eq_ss, ne_ss, eq_bb, ne_bb, beq_self_eq_true, small_nat (show xs.length ≤ 1000000000 by omega), Int.toNat_natCast, e]
    | dict xs => simp [nz] at hv
    | _ => simp only [f__law_same, t__law_same, u__law_same_0, u__law_same_1, u__law_same_2, u__law_same_3, u__law_same_4, u__law_same_5, u__law_same_6, u__law_same_7, u__law_same_8, u__law_same_9, u__law_same_10, ro_w, ro_x, ro_y, ro_0, ro_1, ro_2, ro_3, ro_4, ro_5, ro_6, ro_7, ro_8, ro_9, ro_10, ro_11, ro_12, ro_13, ro_14, ro_15, ro_16, ro_17, ro_18, ro_19, ro_20, ro_21, ro_22, ro_23, List.length_map, reduceIte, reduceCtorEq, Bool.false_eq_true, Bool.not_true, Bool.not_false, Bool.true_and, Bool.and_true, Bool.false_and, Bool.and_false, decide_eq_true_eq, decide_true, decide_false, Bool.or_true, Bool.true_or, Bool.or_false, Bool.false_or, Bool.not_eq_true', decide_eq_false_iff_not, not_true_eq_false, not_false_eq_true, and_self, and_true, true_and, or_true, true_or, or_false, false_or, ne_eq, eq_self, Int.ofNat_lt, Int.ofNat_le, Nat.reduceSub, Nat.reduceAdd, Nat.reduceLT, Nat.reduceLeDiff, Nat.reduceEqDiff, Int.reduceLT, Int.reduceLE, Int.reduceAdd, Int.reduceSub, Int.reduceNeg, Int.reduceMul, Int.reducePow, Nat.reducePow, Int.reduceMod, Int.reduceDiv, Int.reduceToNat, Int.reduceEq, Nat.reduceMul, Int.reduceNegSucc, Nat.zero_le, ro_non, eq_ii, ne_ii, eq_ss, ne_ss, eq_bb, ne_bb, beq_self_eq_true]

def isPairs (d : PyData) : Bool := match d with
  | .tuple xs => xs.all fun x => isRow x (some 2) 0 99
  | _ => false



/-! tables and deeds -/
theorem s_pairs (n : Nat) (h : 1 ≤ n) (t : Tab) (hl : t.length ≤ 1000000) : run T n F_law_pairs [.p (.d (tabK t))] = .ok (.v (.tuple ((sortT t).map pairD)), [.d (tabK t)]) := by
  have hz : lim = 16777216 := rfl
  obtain ⟨n, rfl⟩ := ex_add h
  rw [run__law_pairs]
  have e := comp_pure (own := [1]) (bind := bindTg (.n 1)) (cond := evC (run T n) q__law_pairs_0) (elt := ev (run T n) e__law_pairs_0) (p := fun _ => true) (f := fun x => match x with | .int k => .tuple [.int k, .int ((lookT t k).getD 0)] | _ => .none) (ρ := [some (.p (.d (tabK t))), none])
    (fun x => [some (.p (.d (tabK t))), some (.v x)]) ((sortI (keysT t)).map .int) [] (fun x hx' => by
      obtain ⟨k, hk, rfl⟩ := List.mem_map.mp hx'
      have hk := mem_sortI.mp hk
      have hi := idx_tab (t := t) (k := k)
      cases hv : lookT t k with
      | none => exact absurd hk (look_none.mp hv)
      | some v =>
        rw [hv] at hi
        refine ⟨by simp only [ro_w, ro_x, ro_y, ro_0, ro_1, ro_2, ro_3, ro_4, ro_5, ro_6, ro_7, ro_8, ro_9, ro_10, ro_11, ro_12, ro_13, ro_14, ro_15, ro_16, ro_17, ro_18, ro_19, ro_20, ro_21, ro_22, ro_23, List.length_map, reduceIte, reduceCtorEq, Bool.false_eq_true, Bool.not_true, Bool.not_false, Bool.true_and, Bool.and_true, Bool.false_and, Bool.and_false, decide_eq_true_eq, decide_true, decide_false, Bool.or_true, Bool.true_or, Bool.or_false, Bool.false_or, Bool.not_eq_true', decide_eq_false_iff_not, not_true_eq_false, not_false_eq_true, and_self, and_true, true_and, or_true, true_or, or_false, false_or, ne_eq, eq_self, Int.ofNat_lt, Int.ofNat_le, Nat.reduceSub, Nat.reduceAdd, Nat.reduceLT, Nat.reduceLeDiff, Nat.reduceEqDiff, Int.reduceLT, Int.reduceLE, Int.reduceAdd, Int.reduceSub, Int.reduceNeg, Int.reduceMul, Int.reducePow, Nat.reducePow, Int.reduceMod, Int.reduceDiv, Int.reduceToNat, Int.reduceEq, Nat.reduceMul, Int.reduceNegSucc, Nat.zero_le, ro_non], by simp only [q__law_pairs_0, ro_w, ro_x, ro_y, ro_0, ro_1, ro_2, ro_3, ro_4, ro_5, ro_6, ro_7, ro_8, ro_9, ro_10, ro_11, ro_12, ro_13, ro_14, ro_15, ro_16, ro_17, ro_18, ro_19, ro_20, ro_21, ro_22, ro_23, List.length_map, reduceIte, reduceCtorEq, Bool.false_eq_true, Bool.not_true, Bool.not_false, Bool.true_and, Bool.and_true, Bool.false_and, Bool.and_false, decide_eq_true_eq, decide_true, decide_false, Bool.or_true, Bool.true_or, Bool.or_false, Bool.false_or, Bool.not_eq_true', decide_eq_false_iff_not, not_true_eq_false, not_false_eq_true, and_self, and_true, true_and, or_true, true_or, or_false, false_or, ne_eq, eq_self, Int.ofNat_lt, Int.ofNat_le, Nat.reduceSub, Nat.reduceAdd, Nat.reduceLT, Nat.reduceLeDiff, Nat.reduceEqDiff, Int.reduceLT, Int.reduceLE, Int.reduceAdd, Int.reduceSub, Int.reduceNeg, Int.reduceMul, Int.reducePow, Nat.reducePow, Int.reduceMod, Int.reduceDiv, Int.reduceToNat, Int.reduceEq, Nat.reduceMul, Int.reduceNegSucc, Nat.zero_le, ro_non], fun _ => ⟨.v (.tuple [.int k, .int v]), by simp only [e__law_pairs_0, ro_w, ro_x, ro_y, ro_0, ro_1, ro_2, ro_3, ro_4, ro_5, ro_6, ro_7, ro_8, ro_9, ro_10, ro_11, ro_12, ro_13, ro_14, ro_15, ro_16, ro_17, ro_18, ro_19, ro_20, ro_21, ro_22, ro_23, List.length_map, reduceIte, reduceCtorEq, Bool.false_eq_true, Bool.not_true, Bool.not_false, Bool.true_and, Bool.and_true, Bool.false_and, Bool.and_false, decide_eq_true_eq, decide_true, decide_false, Bool.or_true, Bool.true_or, Bool.or_false, Bool.false_or, Bool.not_eq_true', decide_eq_false_iff_not, not_true_eq_false, not_false_eq_true, and_self, and_true, true_and, or_true, true_or, or_false, false_or, ne_eq, eq_self, Int.ofNat_lt, Int.ofNat_le, Nat.reduceSub, Nat.reduceAdd, Nat.reduceLT, Nat.reduceLeDiff, Nat.reduceEqDiff, Int.reduceLT, Int.reduceLE, Int.reduceAdd, Int.reduceSub, Int.reduceNeg, Int.reduceMul, Int.reducePow, Nat.reducePow, Int.reduceMod, Int.reduceDiv, Int.reduceToNat, Int.reduceEq, Nat.reduceMul, Int.reduceNegSucc, Nat.zero_le, ro_non, data_tab, hi], ?_⟩, by simp only [ro_w, ro_x, ro_y, ro_0, ro_1, ro_2, ro_3, ro_4, ro_5, ro_6, ro_7, ro_8, ro_9, ro_10, ro_11, ro_12, ro_13, ro_14, ro_15, ro_16, ro_17, ro_18, ro_19, ro_20, ro_21, ro_22, ro_23, List.length_map, reduceIte, reduceCtorEq, Bool.false_eq_true, Bool.not_true, Bool.not_false, Bool.true_and, Bool.and_true, Bool.false_and, Bool.and_false, decide_eq_true_eq, decide_true, decide_false, Bool.or_true, Bool.true_or, Bool.or_false, Bool.false_or, Bool.not_eq_true', decide_eq_false_iff_not, not_true_eq_false, not_false_eq_true, and_self, and_true, true_and, or_true, true_or, or_false, false_or, ne_eq, eq_self, Int.ofNat_lt, Int.ofNat_le, Nat.reduceSub, Nat.reduceAdd, Nat.reduceLT, Nat.reduceLeDiff, Nat.reduceEqDiff, Int.reduceLT, Int.reduceLE, Int.reduceAdd, Int.reduceSub, Int.reduceNeg, Int.reduceMul, Int.reducePow, Nat.reducePow, Int.reduceMod, Int.reduceDiv, Int.reduceToNat, Int.reduceEq, Nat.reduceMul, Int.reduceNegSucc, Nat.zero_le, ro_non]⟩
        rw [keep_v]
        show some (PyData.tuple [.int k, .int v]) = some (PyData.tuple [.int k, .int ((lookT t k).getD 0)])
        rw [hv]; rfl) (by rw [List.length_map, len_sortI, hz]; simp [keysT]; omega)
  rw [List.filter_eq_self.mpr (fun _ _ => rfl), List.map_map] at e
  simp only [f__law_pairs, t__law_pairs, u__law_pairs_0, ro_w, ro_x, ro_y, ro_0, ro_1, ro_2, ro_3, ro_4, ro_5, ro_6, ro_7, ro_8, ro_9, ro_10, ro_11, ro_12, ro_13, ro_14, ro_15, ro_16, ro_17, ro_18, ro_19, ro_20, ro_21, ro_22, ro_23, List.length_map, reduceIte, reduceCtorEq, Bool.false_eq_true, Bool.not_true, Bool.not_false, Bool.true_and, Bool.and_true, Bool.false_and, Bool.and_false, decide_eq_true_eq, decide_true, decide_false, Bool.or_true, Bool.true_or, Bool.or_false, Bool.false_or, Bool.not_eq_true', decide_eq_false_iff_not, not_true_eq_false, not_false_eq_true, and_self, and_true, true_and, or_true, true_or, or_false, false_or, ne_eq, eq_self, Int.ofNat_lt, Int.ofNat_le, Nat.reduceSub, Nat.reduceAdd, Nat.reduceLT, Nat.reduceLeDiff, Nat.reduceEqDiff, Int.reduceLT, Int.reduceLE, Int.reduceAdd, Int.reduceSub, Int.reduceNeg, Int.reduceMul, Int.reducePow, Nat.reducePow, Int.reduceMod, Int.reduceDiv, Int.reduceToNat, Int.reduceEq, Nat.reduceMul, Int.reduceNegSucc, Nat.zero_le, ro_non, data_tab, keysD_tab, intsD_map, e]
  unfold sortT
  rw [List.map_map]
  rfl
theorem deeds_step (n : Nat) (h : 3 ≤ n) (o : MO) (ho : PoolOk o) (many : PyData) (span : Int) (hs : 0 < span) (hs2 : span ≤ 100) (ds : List Deed) (hd : ∀ d ∈ ds, deedOk d) (hl : ds.length ≤ 1000) (h40 : (tab ds).length ≤ 40) (x5 x6 : Option SV) (kk : PyData) :
    ∃ o' d k, PoolOk o' ∧ deedOk d ∧ (tab (ds ++ [d])).length ≤ 40 ∧ evSs (run T n) u__law_deeds_5 [some (.p o), some (.v many), some (.v (.int span)), some (.v (.list ((keysT (tab ds)).map .int))), some (.m (.l (ds.map deedD))), some (.v kk), x6, none]
      = .ok (.nxt [some (.p o'), some (.v many), some (.v (.int span)), some (.v (.list ((keysT (tab (ds ++ [d]))).map .int))), some (.m (.l ((ds ++ [d]).map deedD))), some (.v kk), some (.v (.int k)), none]) := by
  have hz : lim = 16777216 := rfl
  obtain ⟨k, o1, ho1, hk, e1⟩ := s_draw n (by omega) o ho span hs (by omega)
  have hk99 : in99 (k : Int) := ⟨by omega, by omega⟩
  obtain ⟨c, o2, ho2, hc, e2⟩ := s_draw n (by omega) o1 ho1 3 (by omega) (by omega)
  have q1 : ds.length < lim := by rw [hz]; omega
  have hlk : (keysT (tab ds)).length ≤ 40 := by unfold keysT; rw [List.length_map]; exact h40
  have dropc : ∀ (ρl : MO), PoolOk ρl → ∃ o' d k', PoolOk o' ∧ deedOk d ∧ (tab (ds ++ [d])).length ≤ 40 ∧ evSs (run T n) u__law_deeds_9 [some (.p ρl), some (.v many), some (.v (.int span)), some (.v (.list ((keysT (tab ds)).map .int))), some (.m (.l (ds.map deedD))), some (.v kk), some (.v (.int (k : Int))), none]
      = .ok (.nxt [some (.p o'), some (.v many), some (.v (.int span)), some (.v (.list ((keysT (tab (ds ++ [d]))).map .int))), some (.m (.l ((ds ++ [d]).map deedD))), some (.v kk), some (.v (.int k')), none]) := fun o3 ho3 => by
    refine ⟨o3, .inr k, k, ho3, hk99, ?_, ?_⟩
    · rw [tab_snoc]
      exact Nat.le_trans (List.length_filter_le _ _) h40
    · have e := comp_pure (own := [7]) (bind := bindTg (.n 7)) (cond := evC (run T n) q__law_deeds_0) (elt := ev (run T n) e__law_deeds_0) (p := fun x => match x with | .int j => !decide (j = (k : Int)) | _ => false) (f := id) (ρ := [some (.p o3), some (.v many), some (.v (.int span)), some (.v (.list ((keysT (tab ds)).map .int))), some (.m (.l (ds.map deedD ++ [deedD (.inr k)]))), some (.v kk), some (.v (.int (k : Int))), none])
        (fun x => [some (.p o3), some (.v many), some (.v (.int span)), some (.v (.list ((keysT (tab ds)).map .int))), some (.m (.l (ds.map deedD ++ [deedD (.inr k)]))), some (.v kk), some (.v (.int (k : Int))), some (.v x)]) ((keysT (tab ds)).map .int) [] (fun x hx' => by
          obtain ⟨j, hj, rfl⟩ := List.mem_map.mp hx'
          exact ⟨by simp only [ro_w, ro_x, ro_y, ro_0, ro_1, ro_2, ro_3, ro_4, ro_5, ro_6, ro_7, ro_8, ro_9, ro_10, ro_11, ro_12, ro_13, ro_14, ro_15, ro_16, ro_17, ro_18, ro_19, ro_20, ro_21, ro_22, ro_23, List.length_map, reduceIte, reduceCtorEq, Bool.false_eq_true, Bool.not_true, Bool.not_false, Bool.true_and, Bool.and_true, Bool.false_and, Bool.and_false, decide_eq_true_eq, decide_true, decide_false, Bool.or_true, Bool.true_or, Bool.or_false, Bool.false_or, Bool.not_eq_true', decide_eq_false_iff_not, not_true_eq_false, not_false_eq_true, and_self, and_true, true_and, or_true, true_or, or_false, false_or, ne_eq, eq_self, Int.ofNat_lt, Int.ofNat_le, Nat.reduceSub, Nat.reduceAdd, Nat.reduceLT, Nat.reduceLeDiff, Nat.reduceEqDiff, Int.reduceLT, Int.reduceLE, Int.reduceAdd, Int.reduceSub, Int.reduceNeg, Int.reduceMul, Int.reducePow, Nat.reducePow, Int.reduceMod, Int.reduceDiv, Int.reduceToNat, Int.reduceEq, Nat.reduceMul, Int.reduceNegSucc, Nat.zero_le, ro_non], by simp only [q__law_deeds_0, ro_w, ro_x, ro_y, ro_0, ro_1, ro_2, ro_3, ro_4, ro_5, ro_6, ro_7, ro_8, ro_9, ro_10, ro_11, ro_12, ro_13, ro_14, ro_15, ro_16, ro_17, ro_18, ro_19, ro_20, ro_21, ro_22, ro_23, List.length_map, reduceIte, reduceCtorEq, Bool.false_eq_true, Bool.not_true, Bool.not_false, Bool.true_and, Bool.and_true, Bool.false_and, Bool.and_false, decide_eq_true_eq, decide_true, decide_false, Bool.or_true, Bool.true_or, Bool.or_false, Bool.false_or, Bool.not_eq_true', decide_eq_false_iff_not, not_true_eq_false, not_false_eq_true, and_self, and_true, true_and, or_true, true_or, or_false, false_or, ne_eq, eq_self, Int.ofNat_lt, Int.ofNat_le, Nat.reduceSub, Nat.reduceAdd, Nat.reduceLT, Nat.reduceLeDiff, Nat.reduceEqDiff, Int.reduceLT, Int.reduceLE, Int.reduceAdd, Int.reduceSub, Int.reduceNeg, Int.reduceMul, Int.reducePow, Nat.reducePow, Int.reduceMod, Int.reduceDiv, Int.reduceToNat, Int.reduceEq, Nat.reduceMul, Int.reduceNegSucc, Nat.zero_le, ro_non, eq_ii, ne_ii, eq_ss, ne_ss, eq_bb, ne_bb], fun _ => ⟨.v (.int j), by simp only [e__law_deeds_0, ro_w, ro_x, ro_y, ro_0, ro_1, ro_2, ro_3, ro_4, ro_5, ro_6, ro_7, ro_8, ro_9, ro_10, ro_11, ro_12, ro_13, ro_14, ro_15, ro_16, ro_17, ro_18, ro_19, ro_20, ro_21, ro_22, ro_23, List.length_map, reduceIte, reduceCtorEq, Bool.false_eq_true, Bool.not_true, Bool.not_false, Bool.true_and, Bool.and_true, Bool.false_and, Bool.and_false, decide_eq_true_eq, decide_true, decide_false, Bool.or_true, Bool.true_or, Bool.or_false, Bool.false_or, Bool.not_eq_true', decide_eq_false_iff_not, not_true_eq_false, not_false_eq_true, and_self, and_true, true_and, or_true, true_or, or_false, false_or, ne_eq, eq_self, Int.ofNat_lt, Int.ofNat_le, Nat.reduceSub, Nat.reduceAdd, Nat.reduceLT, Nat.reduceLeDiff, Nat.reduceEqDiff, Int.reduceLT, Int.reduceLE, Int.reduceAdd, Int.reduceSub, Int.reduceNeg, Int.reduceMul, Int.reducePow, Nat.reducePow, Int.reduceMod, Int.reduceDiv, Int.reduceToNat, Int.reduceEq, Nat.reduceMul, Int.reduceNegSucc, Nat.zero_le, ro_non], rfl⟩, by simp only [ro_w, ro_x, ro_y, ro_0, ro_1, ro_2, ro_3, ro_4, ro_5, ro_6, ro_7, ro_8, ro_9, ro_10, ro_11, ro_12, ro_13, ro_14, ro_15, ro_16, ro_17, ro_18, ro_19, ro_20, ro_21, ro_22, ro_23, List.length_map, reduceIte, reduceCtorEq, Bool.false_eq_true, Bool.not_true, Bool.not_false, Bool.true_and, Bool.and_true, Bool.false_and, Bool.and_false, decide_eq_true_eq, decide_true, decide_false, Bool.or_true, Bool.true_or, Bool.or_false, Bool.false_or, Bool.not_eq_true', decide_eq_false_iff_not, not_true_eq_false, not_false_eq_true, and_self, and_true, true_and, or_true, true_or, or_false, false_or, ne_eq, eq_self, Int.ofNat_lt, Int.ofNat_le, Nat.reduceSub, Nat.reduceAdd, Nat.reduceLT, Nat.reduceLeDiff, Nat.reduceEqDiff, Int.reduceLT, Int.reduceLE, Int.reduceAdd, Int.reduceSub, Int.reduceNeg, Int.reduceMul, Int.reducePow, Nat.reducePow, Int.reduceMod, Int.reduceDiv, Int.reduceToNat, Int.reduceEq, Nat.reduceMul, Int.reduceNegSucc, Nat.zero_le, ro_non]⟩) (by rw [List.length_map, hz]; simp; omega)
      rw [List.map_id, List.filter_map] at e
      have e3 : compR [7] (bindTg (.n 7)) (evC (run T n) q__law_deeds_0) (ev (run T n) e__law_deeds_0) ((keysT (tab ds)).map .int) [some (.p o3), some (.v many), some (.v (.int span)), some (.v (.list ((keysT (tab ds)).map .int))), some (.m (.l (ds.map deedD ++ [.tuple [.str (Str.ofString "drop"), .int k]]))), some (.v kk), some (.v (.int (k : Int))), none] []
          = .ok ((keysT (tab (ds ++ [.inr (k : Int)]))).map .int, [some (.p o3), some (.v many), some (.v (.int span)), some (.v (.list ((keysT (tab ds)).map .int))), some (.m (.l (ds.map deedD ++ [.tuple [.str (Str.ofString "drop"), .int k]]))), some (.v kk), some (.v (.int (k : Int))), none]) := by
        rw [tab_snoc]
        show _ = Res.ok ((keysT (dropT (tab ds) k)).map PyData.int, _)
        rw [keys_dropT]
        exact e
      simp only [u__law_deeds_9, u__law_deeds_10, ro_w, ro_x, ro_y, ro_0, ro_1, ro_2, ro_3, ro_4, ro_5, ro_6, ro_7, ro_8, ro_9, ro_10, ro_11, ro_12, ro_13, ro_14, ro_15, ro_16, ro_17, ro_18, ro_19, ro_20, ro_21, ro_22, ro_23, List.length_map, reduceIte, reduceCtorEq, Bool.false_eq_true, Bool.not_true, Bool.not_false, Bool.true_and, Bool.and_true, Bool.false_and, Bool.and_false, decide_eq_true_eq, decide_true, decide_false, Bool.or_true, Bool.true_or, Bool.or_false, Bool.false_or, Bool.not_eq_true', decide_eq_false_iff_not, not_true_eq_false, not_false_eq_true, and_self, and_true, true_and, or_true, true_or, or_false, false_or, ne_eq, eq_self, Int.ofNat_lt, Int.ofNat_le, Nat.reduceSub, Nat.reduceAdd, Nat.reduceLT, Nat.reduceLeDiff, Nat.reduceEqDiff, Int.reduceLT, Int.reduceLE, Int.reduceAdd, Int.reduceSub, Int.reduceNeg, Int.reduceMul, Int.reducePow, Nat.reducePow, Int.reduceMod, Int.reduceDiv, Int.reduceToNat, Int.reduceEq, Nat.reduceMul, Int.reduceNegSucc, Nat.zero_le, ro_non, q1, e3, List.map_append, deedD]
  by_cases hc0 : 0 < (c : Int)
  · have put : ((k : Int) ∈ keysT (tab ds) ∨ ((keysT (tab ds)).length : Int) < 40) → ∃ o' d k', PoolOk o' ∧ deedOk d ∧ (tab (ds ++ [d])).length ≤ 40 ∧ evSs (run T n) u__law_deeds_7 [some (.p o2), some (.v many), some (.v (.int span)), some (.v (.list ((keysT (tab ds)).map .int))), some (.m (.l (ds.map deedD))), some (.v kk), some (.v (.int (k : Int))), none]
        = .ok (.nxt [some (.p o'), some (.v many), some (.v (.int span)), some (.v (.list ((keysT (tab (ds ++ [d]))).map .int))), some (.m (.l ((ds ++ [d]).map deedD))), some (.v kk), some (.v (.int k')), none]) := fun hor => by
      obtain ⟨v, o3, ho3, hv, e3⟩ := s_draw n (by omega) o2 ho2 100 (by omega) (by omega)
      have hkp := keys_putT (t := tab ds) (k := k) (v := v)
      refine ⟨o3, .inl (k, v), k, ho3, ⟨hk99, by omega, by omega⟩, ?_, ?_⟩
      · rw [tab_snoc]
        show (putT (tab ds) k v).length ≤ 40
        have : (putT (tab ds) k v).length = (keysT (putT (tab ds) k v)).length := by unfold keysT; rw [List.length_map]
        rw [this, hkp]
        split
        · exact hlk
        · rename_i hn
          rcases hor with hor | hor
          · exact absurd hor hn
          · rw [List.length_append, List.length_singleton]; omega
      · have htab : keysT (tab (ds ++ [Sum.inl ((k : Int), (v : Int))])) = if (k : Int) ∈ keysT (tab ds) then keysT (tab ds) else keysT (tab ds) ++ [(k : Int)] := by rw [tab_snoc]; exact hkp
        have q2 : (keysT (tab ds)).length + 1 ≤ lim := by rw [hz]; omega
        rw [htab]
        by_cases hm : (k : Int) ∈ keysT (tab ds)
        · simp only [u__law_deeds_7, u__law_deeds_8, ro_w, ro_x, ro_y, ro_0, ro_1, ro_2, ro_3, ro_4, ro_5, ro_6, ro_7, ro_8, ro_9, ro_10, ro_11, ro_12, ro_13, ro_14, ro_15, ro_16, ro_17, ro_18, ro_19, ro_20, ro_21, ro_22, ro_23, List.length_map, reduceIte, reduceCtorEq, Bool.false_eq_true, Bool.not_true, Bool.not_false, Bool.true_and, Bool.and_true, Bool.false_and, Bool.and_false, decide_eq_true_eq, decide_true, decide_false, Bool.or_true, Bool.true_or, Bool.or_false, Bool.false_or, Bool.not_eq_true', decide_eq_false_iff_not, not_true_eq_false, not_false_eq_true, and_self, and_true, true_and, or_true, true_or, or_false, false_or, ne_eq, eq_self, Int.ofNat_lt, Int.ofNat_le, Nat.reduceSub, Nat.reduceAdd, Nat.reduceLT, Nat.reduceLeDiff, Nat.reduceEqDiff, Int.reduceLT, Int.reduceLE, Int.reduceAdd, Int.reduceSub, Int.reduceNeg, Int.reduceMul, Int.reducePow, Nat.reducePow, Int.reduceMod, Int.reduceDiv, Int.reduceToNat, Int.reduceEq, Nat.reduceMul, Int.reduceNegSucc, Nat.zero_le, ro_non, e3, q1, q2, List.map_append, deedD, notin_ints, hm]
        · simp only [u__law_deeds_7, u__law_deeds_8, ro_w, ro_x, ro_y, ro_0, ro_1, ro_2, ro_3, ro_4, ro_5, ro_6, ro_7, ro_8, ro_9, ro_10, ro_11, ro_12, ro_13, ro_14, ro_15, ro_16, ro_17, ro_18, ro_19, ro_20, ro_21, ro_22, ro_23, List.length_map, reduceIte, reduceCtorEq, Bool.false_eq_true, Bool.not_true, Bool.not_false, Bool.true_and, Bool.and_true, Bool.false_and, Bool.and_false, decide_eq_true_eq, decide_true, decide_false, Bool.or_true, Bool.true_or, Bool.or_false, Bool.false_or, Bool.not_eq_true', decide_eq_false_iff_not, not_true_eq_false, not_false_eq_true, and_self, and_true, true_and, or_true, true_or, or_false, false_or, ne_eq, eq_self, Int.ofNat_lt, Int.ofNat_le, Nat.reduceSub, Nat.reduceAdd, Nat.reduceLT, Nat.reduceLeDiff, Nat.reduceEqDiff, Int.reduceLT, Int.reduceLE, Int.reduceAdd, Int.reduceSub, Int.reduceNeg, Int.reduceMul, Int.reducePow, Nat.reducePow, Int.reduceMod, Int.reduceDiv, Int.reduceToNat, Int.reduceEq, Nat.reduceMul, Int.reduceNegSucc, Nat.zero_le, ro_non, e3, q1, q2, List.map_append, deedD, notin_ints, hm]
    by_cases hm : (k : Int) ∈ keysT (tab ds)
    · obtain ⟨o', d, k', ho', hdd, h4, e⟩ := put (.inl hm)
      exact ⟨o', d, k', ho', hdd, h4, by simp only [u__law_deeds_5, u__law_deeds_6, ro_w, ro_x, ro_y, ro_0, ro_1, ro_2, ro_3, ro_4, ro_5, ro_6, ro_7, ro_8, ro_9, ro_10, ro_11, ro_12, ro_13, ro_14, ro_15, ro_16, ro_17, ro_18, ro_19, ro_20, ro_21, ro_22, ro_23, List.length_map, reduceIte, reduceCtorEq, Bool.false_eq_true, Bool.not_true, Bool.not_false, Bool.true_and, Bool.and_true, Bool.false_and, Bool.and_false, decide_eq_true_eq, decide_true, decide_false, Bool.or_true, Bool.true_or, Bool.or_false, Bool.false_or, Bool.not_eq_true', decide_eq_false_iff_not, not_true_eq_false, not_false_eq_true, and_self, and_true, true_and, or_true, true_or, or_false, false_or, ne_eq, eq_self, Int.ofNat_lt, Int.ofNat_le, Nat.reduceSub, Nat.reduceAdd, Nat.reduceLT, Nat.reduceLeDiff, Nat.reduceEqDiff, Int.reduceLT, Int.reduceLE, Int.reduceAdd, Int.reduceSub, Int.reduceNeg, Int.reduceMul, Int.reducePow, Nat.reducePow, Int.reduceMod, Int.reduceDiv, Int.reduceToNat, Int.reduceEq, Nat.reduceMul, Int.reduceNegSucc, Nat.zero_le, ro_non, e1, e2, hc0, in_ints, hm, e]⟩
    · by_cases hlt : ((keysT (tab ds)).length : Int) < 40
      · obtain ⟨o', d, k', ho', hdd, h4, e⟩ := put (.inr hlt)
        exact ⟨o', d, k', ho', hdd, h4, by simp only [u__law_deeds_5, u__law_deeds_6, ro_w, ro_x, ro_y, ro_0, ro_1, ro_2, ro_3, ro_4, ro_5, ro_6, ro_7, ro_8, ro_9, ro_10, ro_11, ro_12, ro_13, ro_14, ro_15, ro_16, ro_17, ro_18, ro_19, ro_20, ro_21, ro_22, ro_23, List.length_map, reduceIte, reduceCtorEq, Bool.false_eq_true, Bool.not_true, Bool.not_false, Bool.true_and, Bool.and_true, Bool.false_and, Bool.and_false, decide_eq_true_eq, decide_true, decide_false, Bool.or_true, Bool.true_or, Bool.or_false, Bool.false_or, Bool.not_eq_true', decide_eq_false_iff_not, not_true_eq_false, not_false_eq_true, and_self, and_true, true_and, or_true, true_or, or_false, false_or, ne_eq, eq_self, Int.ofNat_lt, Int.ofNat_le, Nat.reduceSub, Nat.reduceAdd, Nat.reduceLT, Nat.reduceLeDiff, Nat.reduceEqDiff, Int.reduceLT, Int.reduceLE, Int.reduceAdd, Int.reduceSub, Int.reduceNeg, Int.reduceMul, Int.reducePow, Nat.reducePow, Int.reduceMod, Int.reduceDiv, Int.reduceToNat, Int.reduceEq, Nat.reduceMul, Int.reduceNegSucc, Nat.zero_le, ro_non, e1, e2, hc0, in_ints, hm, hlt, e]⟩
      · obtain ⟨o', d, k', ho', hdd, h4, e⟩ := dropc o2 ho2
        exact ⟨o', d, k', ho', hdd, h4, by simp only [u__law_deeds_5, u__law_deeds_6, ro_w, ro_x, ro_y, ro_0, ro_1, ro_2, ro_3, ro_4, ro_5, ro_6, ro_7, ro_8, ro_9, ro_10, ro_11, ro_12, ro_13, ro_14, ro_15, ro_16, ro_17, ro_18, ro_19, ro_20, ro_21, ro_22, ro_23, List.length_map, reduceIte, reduceCtorEq, Bool.false_eq_true, Bool.not_true, Bool.not_false, Bool.true_and, Bool.and_true, Bool.false_and, Bool.and_false, decide_eq_true_eq, decide_true, decide_false, Bool.or_true, Bool.true_or, Bool.or_false, Bool.false_or, Bool.not_eq_true', decide_eq_false_iff_not, not_true_eq_false, not_false_eq_true, and_self, and_true, true_and, or_true, true_or, or_false, false_or, ne_eq, eq_self, Int.ofNat_lt, Int.ofNat_le, Nat.reduceSub, Nat.reduceAdd, Nat.reduceLT, Nat.reduceLeDiff, Nat.reduceEqDiff, Int.reduceLT, Int.reduceLE, Int.reduceAdd, Int.reduceSub, Int.reduceNeg, Int.reduceMul, Int.reducePow, Nat.reducePow, Int.reduceMod, Int.reduceDiv, Int.reduceToNat, Int.reduceEq, Nat.reduceMul, Int.reduceNegSucc, Nat.zero_le, ro_non, e1, e2, hc0, in_ints, hm, hlt, e]⟩
  · obtain ⟨o', d, k', ho', hdd, h4, e⟩ := dropc o2 ho2
    exact ⟨o', d, k', ho', hdd, h4, by simp only [u__law_deeds_5, u__law_deeds_6, ro_w, ro_x, ro_y, ro_0, ro_1, ro_2, ro_3, ro_4, ro_5, ro_6, ro_7, ro_8, ro_9, ro_10, ro_11, ro_12, ro_13, ro_14, ro_15, ro_16, ro_17, ro_18, ro_19, ro_20, ro_21, ro_22, ro_23, List.length_map, reduceIte, reduceCtorEq, Bool.false_eq_true, Bool.not_true, Bool.not_false, Bool.true_and, Bool.and_true, Bool.false_and, Bool.and_false, decide_eq_true_eq, decide_true, decide_false, Bool.or_true, Bool.true_or, Bool.or_false, Bool.false_or, Bool.not_eq_true', decide_eq_false_iff_not, not_true_eq_false, not_false_eq_true, and_self, and_true, true_and, or_true, true_or, or_false, false_or, ne_eq, eq_self, Int.ofNat_lt, Int.ofNat_le, Nat.reduceSub, Nat.reduceAdd, Nat.reduceLT, Nat.reduceLeDiff, Nat.reduceEqDiff, Int.reduceLT, Int.reduceLE, Int.reduceAdd, Int.reduceSub, Int.reduceNeg, Int.reduceMul, Int.reducePow, Nat.reducePow, Int.reduceMod, Int.reduceDiv, Int.reduceToNat, Int.reduceEq, Nat.reduceMul, Int.reduceNegSucc, Nat.zero_le, ro_non, e1, e2, hc0, e]⟩
/-- rows of deeds under which a table never has more than 40 keys -/
def DeedsOk (ds : List Deed) : Prop := (∀ d ∈ ds, deedOk d) ∧ ∀ i, i ≤ ds.length → (tab (ds.take i)).length ≤ 40
theorem deeds_snoc {ds : List Deed} {d : Deed} (h : DeedsOk ds) (hd : deedOk d) (hl : (tab (ds ++ [d])).length ≤ 40) : DeedsOk (ds ++ [d]) := by
  refine ⟨fun x hx => ?_, fun i hi => ?_⟩
  · rcases List.mem_append.mp hx with hx | hx
    · exact h.1 x hx
    · rw [List.mem_singleton.mp hx]; exact hd
  · by_cases c : i ≤ ds.length
    · rw [List.take_append_of_le_length c]; exact h.2 i c
    · rw [List.take_of_length_le (by rw [List.length_append, List.length_singleton]; omega)]; exact hl
theorem s_deeds (n : Nat) (h : 4 ≤ n) (o : MO) (ho : PoolOk o) (m : Nat) (hm : m ≤ 200) : ∃ ds o', PoolOk o' ∧ DeedsOk ds ∧ ds.length ≤ 200 ∧ run T n F_law_deeds [.p o, .v (.int m)] = .ok (.m (.l (ds.map deedD)), [o']) := by
  have hz : lim = 16777216 := rfl
  obtain ⟨n, rfl⟩ := ex_add (show 1 ≤ n by omega)
  obtain ⟨c, o1, ho1, hc, e1⟩ := s_draw n (by omega) o ho 3 (by omega) (by omega)
  obtain ⟨x, hx, hmem⟩ := atI_mem (xs := [PyData.int 8, .int 30, .int 100]) (k := c) (by simp; omega)
  obtain ⟨j, rfl, hj, hj2⟩ : ∃ j : Int, x = .int j ∧ 0 < j ∧ j ≤ 100 := by
    simp only [List.mem_cons, List.not_mem_nil, or_false] at hmem
    rcases hmem with rfl | rfl | rfl <;> exact ⟨_, rfl, by decide, by decide⟩
  obtain ⟨ρ', e, o2, ds, x5, x6, ho2, hds, hlen, h5, hρ⟩ := for_inv (bind := bindTg (.n 5)) (body := evSs (run T n) u__law_deeds_5)
    (I := fun k ρ => ∃ (o : MO) (ds : List Deed) (x5 x6 : Option SV), PoolOk o ∧ DeedsOk ds ∧ ds.length = k ∧ x5.bind SV.mo = none ∧ ρ = [some (.p o), some (.v (.int m)), some (.v (.int j)), some (.v (.list ((keysT (tab ds)).map .int))), some (.m (.l (ds.map deedD))), x5, x6, none])
    (rngL 0 m) 0 [some (.p o1), some (.v (.int m)), some (.v (.int j)), some (.v (.list [])), some (.m (.l [])), none, none, none] ⟨o1, [], none, none, ho1, ⟨by simp, fun i hi => by rw [List.take_nil]; decide⟩, rfl, rfl, rfl⟩ (fun i x ρ hx ⟨o, ds, x5, x6, ho, hds, hlen, h5, hρ⟩ => by
      obtain ⟨hi, rfl⟩ := rngL_get hx
      subst hρ
      have h40 := hds.2 ds.length (Nat.le_refl _)
      rw [List.take_length] at h40
      obtain ⟨o', d, k', ho', hdd, h4, e⟩ := deeds_step n (by omega) o ho (.int m) j hj hj2 ds hds.1 (by omega) h40 x5 x6 (.int (0 + (i : Nat)))
      exact ⟨_, _, by simp only [ro_w, ro_x, ro_y, ro_0, ro_1, ro_2, ro_3, ro_4, ro_5, ro_6, ro_7, ro_8, ro_9, ro_10, ro_11, ro_12, ro_13, ro_14, ro_15, ro_16, ro_17, ro_18, ro_19, ro_20, ro_21, ro_22, ro_23, List.length_map, reduceIte, reduceCtorEq, Bool.false_eq_true, Bool.not_true, Bool.not_false, Bool.true_and, Bool.and_true, Bool.false_and, Bool.and_false, decide_eq_true_eq, decide_true, decide_false, Bool.or_true, Bool.true_or, Bool.or_false, Bool.false_or, Bool.not_eq_true', decide_eq_false_iff_not, not_true_eq_false, not_false_eq_true, and_self, and_true, true_and, or_true, true_or, or_false, false_or, ne_eq, eq_self, Int.ofNat_lt, Int.ofNat_le, Nat.reduceSub, Nat.reduceAdd, Nat.reduceLT, Nat.reduceLeDiff, Nat.reduceEqDiff, Int.reduceLT, Int.reduceLE, Int.reduceAdd, Int.reduceSub, Int.reduceNeg, Int.reduceMul, Int.reducePow, Nat.reducePow, Int.reduceMod, Int.reduceDiv, Int.reduceToNat, Int.reduceEq, Nat.reduceMul, Int.reduceNegSucc, Nat.zero_le, ro_non, h5], .inl e, o', ds ++ [d], _, _, ho', deeds_snoc hds hdd h4, by rw [List.length_append, List.length_singleton, hlen], rfl, rfl⟩)
  rw [rngL_len] at hlen
  subst hρ
  refine ⟨ds, o2, ho2, hds, by omega, ?_⟩
  rw [run__law_deeds]
  simp only [f__law_deeds, t__law_deeds, u__law_deeds_0, u__law_deeds_1, u__law_deeds_2, u__law_deeds_3, u__law_deeds_4, ro_w, ro_x, ro_y, ro_0, ro_1, ro_2, ro_3, ro_4, ro_5, ro_6, ro_7, ro_8, ro_9, ro_10, ro_11, ro_12, ro_13, ro_14, ro_15, ro_16, ro_17, ro_18, ro_19, ro_20, ro_21, ro_22, ro_23, List.length_map, reduceIte, reduceCtorEq, Bool.false_eq_true, Bool.not_true, Bool.not_false, Bool.true_and, Bool.and_true, Bool.false_and, Bool.and_false, decide_eq_true_eq, decide_true, decide_false, Bool.or_true, Bool.true_or, Bool.or_false, Bool.false_or, Bool.not_eq_true', decide_eq_false_iff_not, not_true_eq_false, not_false_eq_true, and_self, and_true, true_and, or_true, true_or, or_false, false_or, ne_eq, eq_self, Int.ofNat_lt, Int.ofNat_le, Nat.reduceSub, Nat.reduceAdd, Nat.reduceLT, Nat.reduceLeDiff, Nat.reduceEqDiff, Int.reduceLT, Int.reduceLE, Int.reduceAdd, Int.reduceSub, Int.reduceNeg, Int.reduceMul, Int.reducePow, Nat.reducePow, Int.reduceMod, Int.reduceDiv, Int.reduceToNat, Int.reduceEq, Nat.reduceMul, Int.reduceNegSucc, Nat.zero_le, ro_non, e1, hx, small_nat (show m ≤ 1000000000 by omega), Int.toNat_natCast, e]

theorem all_bools {p : PyData → Bool} {xs : List PyData} : ((boolsD (xs.map fun x => PyData.bool (p x))).map fun bs => RV.v (.bool (bs.all id))) = some (.v (.bool (xs.all p))) := by
  have : (xs.map fun x => PyData.bool (p x)) = (xs.map p).map .bool := by rw [List.map_map]; rfl
  rw [this, boolsD_map, Option.map_some, List.all_map]; rfl
/-- the first fault, in either way of telling it -/
theorem first_fa (fs : List (PyData × PyData)) : ((fs.map fun p => if isNonD p.2 = true then PyData.none else .tuple [p.1, p.2]).find? fun x => !isNonD x).getD .none = firstD fs := by
  induction fs with
  | nil => rfl
  | cons p fs ih =>
    unfold firstD at ih ⊢
    by_cases h : isNonD p.2 = true
    · simp only [List.map_cons, h, if_true, List.find?_cons, o_non_none, Bool.not_true]
      exact ih
    · rw [Bool.not_eq_true] at h
      simp only [List.map_cons, h, Bool.false_eq_true, if_false, List.find?_cons, o_non_tuple, Bool.not_false, Option.getD_some]








/-! next keys of rows -/
theorem nextR_min {R : Tab} (h : Asc R) {k : Int} : nextR R k = minL ((keysT R).filter fun j => decide (k ≤ j)) := by
  rw [minL_asc]
  · rfl
  · refine List.Pairwise.filter _ ?_
    unfold keysT
    rw [List.pairwise_map]
    exact h.imp fun h => Int.le_of_lt h
theorem minL_of {is : List Int} {m : Int} (h1 : m ∈ is) (h2 : ∀ x ∈ is, m ≤ x) : minL is = some m := by
  cases h : minL is with
  | none =>
    cases is with
    | nil => cases h1
    | cons x r => cases h
  | some m' =>
    obtain ⟨h3, h4⟩ := pl_minL_spec h
    have := h4 m h1
    have := h2 m' h3
    congr 1; omega
theorem mem_keys_look {R : Tab} {k : Int} (h : k ∈ keysT R) : ∃ v, lookT R k = some v := by
  cases hv : lookT R k with
  | none => exact absurd h (look_none.mp hv)
  | some v => exact ⟨v, rfl⟩
theorem nextR_some {R : Tab} (h : Asc R) {k a v : Int} (hka : k ≤ a) (hv : lookT R a = some v) (hn : ∀ j, k ≤ j → j < a → lookT R j = none) : nextR R k = some a := by
  rw [nextR_min h]
  refine minL_of (List.mem_filter.mpr ⟨List.mem_map.mpr ⟨_, look_mem hv, rfl⟩, by simpa using hka⟩) fun x hx => ?_
  obtain ⟨h1, h2⟩ := List.mem_filter.mp hx
  have h2 : k ≤ x := by simpa using h2
  refine Int.not_lt.mp fun hc => ?_
  obtain ⟨w, hw⟩ := mem_keys_look h1
  rw [hn x h2 hc] at hw; cases hw
theorem nextR_none {R : Tab} (h : Asc R) {k : Int} (hn : ∀ j, k ≤ j → lookT R j = none) : nextR R k = none := by
  unfold nextR
  rw [List.head?_eq_none_iff, List.filter_eq_nil_iff]
  intro x hx hc
  obtain ⟨w, hw⟩ := mem_keys_look hx
  rw [hn x (by simpa using hc)] at hw; cases hw
theorem dropR_none {R : Tab} {k : Int} (h : lookT R k = none) : dropR R k = R := by
  unfold dropR dropT
  refine List.filter_eq_self.mpr fun p hp => ?_
  have : ¬ p.1 = k := fun e => look_none.mp h (e ▸ List.mem_map.mpr ⟨p, hp, rfl⟩)
  simp [this]
theorem nat99 {k : Int} (h : in99 k) : ∃ m : Nat, k = (m : Int) ∧ m < 100 := by
  obtain ⟨m, rfl⟩ := Int.eq_ofNat_of_zero_le h.1
  have := h.2
  exact ⟨m, rfl, by omega⟩

/-! rows of pairs, as they are told -/
theorem isPairs_rows {ps : Tab} (h : ∀ p ∈ ps, in99 p.1 ∧ in99 p.2) : isPairs (.tuple (ps.map pairD)) = true := by
  refine List.all_eq_true.mpr fun x hx => ?_
  obtain ⟨p, hp, rfl⟩ := List.mem_map.mp hx
  obtain ⟨⟨a, b⟩, c, d⟩ := h p hp
  simp [isRow, pairD, lenB, inRng, a, b, c, d]
theorem isPairs_of {d : PyData} (h : isPairs d = true) : ∃ ps : Tab, d = .tuple (ps.map pairD) ∧ ∀ p ∈ ps, in99 p.1 ∧ in99 p.2 := by
  cases d with
  | tuple xs =>
    obtain ⟨ps, rfl, hp⟩ := rows_of h
    exact ⟨ps, rfl, hp⟩
  | _ => simp [isPairs] at h
theorem pairs_tl {ps : Tab} : ∀ xs, PyData.tuple (ps.map pairD) = .tuple xs → ∀ x ∈ xs, tl x ≤ lim := fun xs e x hx => by
  have hz : lim = 16777216 := rfl
  cases e
  obtain ⟨p, _, rfl⟩ := List.mem_map.mp hx
  simp [tl, pairD, hz]

/-! comprehensions of two clauses -/
theorem compQ_pure {own : List Nat} {bind : PyData → Rf.Env → Option Rf.Env} {cond : EvB} {inner : Rf.Env → List PyData → Res (List PyData × Rf.Env)} {p : PyData → Bool} {G : PyData → List PyData} {ρ : Rf.Env} (M : Nat) (ρx : PyData → Rf.Env) :
    ∀ (xs acc : List PyData), (∀ x ∈ xs, bind x ρ = some (ρx x) ∧ cond (ρx x) = .ok (p x, ρx x) ∧ (p x = true → ∀ acc : List PyData, acc.length + (G x).length ≤ M → inner (ρx x) acc = .ok (acc ++ G x, ρx x)) ∧ wipeE (ρx x) own = ρ) →
    acc.length + (((xs.filter p).map G).flatten).length ≤ M → compQ own bind cond inner xs ρ acc = .ok (acc ++ ((xs.filter p).map G).flatten, ρ)
  | [], acc, _, _ => by simp [compQ]
  | x :: xs, acc, h, hl => by
    obtain ⟨h1, h2, h3, h4⟩ := h x List.mem_cons_self
    have ih := fun acc => compQ_pure (p := p) (G := G) (ρ := ρ) M ρx xs acc fun y hy => h y (List.mem_cons_of_mem _ hy)
    cases hp : p x with
    | false =>
      simp only [List.filter_cons, hp, Bool.false_eq_true, if_false] at hl
      simp only [compQ, h1, ofO_some, bnd_ok, h2, hp, Bool.false_eq_true, if_false, h4, List.filter_cons]
      exact ih acc hl
    | true =>
      simp only [List.filter_cons, hp, if_true, List.map_cons, List.flatten_cons, List.length_append] at hl
      have h5 := h3 hp acc (by omega)
      simp only [compQ, h1, ofO_some, bnd_ok, h2, hp, if_true, h5, h4, List.filter_cons, List.map_cons, List.flatten_cons]
      rw [ih (acc ++ G x) (by simp only [List.length_append]; omega), List.append_assoc]

/-! rows of pairs sorted -/
theorem pl_insP_perm (x : Int × Int) : ∀ l : Tab, (insP x l).Perm (x :: l)
  | [] => .refl _
  | y :: r => by
    unfold insP
    split
    · exact .refl _
    · exact ((pl_insP_perm x r).cons y).trans (.swap x y r)
theorem pl_sortP_perm : ∀ l : Tab, (sortP l).Perm l
  | [] => .refl _
  | x :: r => (pl_insP_perm x (sortP r)).trans ((pl_sortP_perm r).cons x)
theorem pl_leP {p q : Int × Int} : leP p q = true ↔ p.1 < q.1 ∨ (p.1 = q.1 ∧ p.2 ≤ q.2) := by unfold leP; simp
theorem pl_insP_asc (x : Int × Int) : ∀ l : Tab, Asc l → (∀ y ∈ l, y.1 ≠ x.1) → Asc (insP x l)
  | [], _, _ => List.pairwise_singleton _ _
  | y :: r, h, hx => by
    have h' := List.pairwise_cons.mp h
    have hy := hx y List.mem_cons_self
    unfold insP
    split
    · rename_i c
      have c := pl_leP.mp c
      refine List.pairwise_cons.mpr ⟨fun z hz => ?_, h⟩
      rcases List.mem_cons.mp hz with rfl | hz
      · omega
      · have := h'.1 z hz; omega
    · rename_i c
      have c : ¬ (x.1 < y.1 ∨ (x.1 = y.1 ∧ x.2 ≤ y.2)) := fun z => c (pl_leP.mpr z)
      refine List.pairwise_cons.mpr ⟨fun z hz => ?_, pl_insP_asc x r h'.2 fun z hz => hx z (List.mem_cons_of_mem _ hz)⟩
      rcases List.mem_cons.mp ((pl_insP_perm x r).mem_iff.mp hz) with rfl | hz
      · omega
      · exact h'.1 z hz
theorem pl_sortP_asc : ∀ l : Tab, (keysT l).Nodup → Asc (sortP l)
  | [], _ => List.Pairwise.nil
  | x :: r, h => by
    obtain ⟨h1, h2⟩ := List.nodup_cons.mp (show (x.1 :: keysT r).Nodup from h)
    refine pl_insP_asc x _ (pl_sortP_asc r h2) fun y hy e => h1 ?_
    have := (pl_sortP_perm r).mem_iff.mp hy
    exact e ▸ List.mem_map.mpr ⟨y, this, rfl⟩
/-- in rows whose keys differ, a key's value is what stands there -/
theorem mem_look {R : Tab} (h : (keysT R).Nodup) {k v : Int} : lookT R k = some v ↔ (k, v) ∈ R := by
  refine ⟨look_mem, fun hm => ?_⟩
  induction R with
  | nil => cases hm
  | cons p R ih =>
    obtain ⟨h1, h2⟩ := List.nodup_cons.mp (show (p.1 :: keysT R).Nodup from h)
    rw [look_cons]
    rcases List.mem_cons.mp hm with rfl | hm
    · rw [if_pos rfl]
    · have : ¬ p.1 = k := fun e => h1 (e ▸ List.mem_map.mpr ⟨_, hm, rfl⟩)
      rw [if_neg this]
      exact ih h2 hm
theorem asc_keys {R : Tab} (h : Asc R) : (keysT R).Nodup := by
  unfold keysT List.Nodup
  rw [List.pairwise_map]
  exact h.imp fun h => by omega
theorem look_ext {A B : Tab} (hA : (keysT A).Nodup) (hB : (keysT B).Nodup) (h : ∀ p, p ∈ A ↔ p ∈ B) (k : Int) : lookT A k = lookT B k := by
  cases ha : lookT A k with
  | some v => exact ((mem_look hB).mpr ((h _).mp ((mem_look hA).mp ha))).symm
  | none =>
    cases hb : lookT B k with
    | none => rfl
    | some v => rw [(mem_look hA).mpr ((h _).mpr ((mem_look hB).mp hb))] at ha; cases ha
theorem sortP_eq {A R : Tab} (hA : (keysT A).Nodup) (hR : Asc R) (h : ∀ p, p ∈ A ↔ p ∈ R) : sortP A = R := by
  have hs := pl_sortP_asc A hA
  refine asc_ext hs hR fun j => look_ext (asc_keys hs) (asc_keys hR) (fun p => ?_) j
  rw [(pl_sortP_perm A).mem_iff, h]
theorem pairsI_rows : ∀ A : Tab, pairsI (A.map pairD) = some A
  | [] => rfl
  | p :: A => by
    show (pairsI (A.map pairD)).map ((p.1, p.2) :: ·) = _
    rw [pairsI_rows A]; rfl
theorem p_sortP {A R : Tab} (hA : (keysT A).Nodup) (hR : RowOk R) (h : ∀ p, p ∈ A ↔ p ∈ R) (hl : A.length < 64) : primD .sortP [.list (A.map pairD)] = some (.m (.l (R.map pairD))) ∧ primD .sortP [.tuple (A.map pairD)] = some (.m (.l (R.map pairD))) := by
  have ok : A.all okP = true := List.all_eq_true.mpr fun p hp => by
    obtain ⟨h1, h2⟩ := hR.2.2 p ((h p).mp hp)
    unfold in99 at h1 h2
    have h1 : 0 ≤ p.1 ∧ p.1 ≤ 99 := h1
    have h2 : 0 ≤ p.2 ∧ p.2 ≤ 99 := h2
    unfold okP
    simp only [Bool.and_eq_true, decide_eq_true_eq]
    omega
  have e : ∀ x, pairsI x = some A → (pairsI x).bind (fun ps => if (decide (ps.length < 64) && ps.all okP) = true then some (RV.m (.l ((sortP ps).map pdP))) else none) = some (.m (.l (R.map pairD))) := fun x hx => by
    rw [hx, Option.bind_some, if_pos (by rw [ok, decide_eq_true hl]; rfl), sortP_eq hA hR.1 h]
    rfl
  exact ⟨e _ (pairsI_rows A), e _ (pairsI_rows A)⟩
theorem mem_ins {R : Tab} {k v : Int} {p : Int × Int} : p ∈ insR R k v ↔ p = (k, v) ∨ (p ∈ R ∧ p.1 ≠ k) := by
  unfold insR
  simp only [List.mem_append, List.mem_cons, List.mem_filter, decide_eq_true_eq]
  constructor
  · rintro (⟨h1, h2⟩ | h | ⟨h1, h2⟩)
    · exact .inr ⟨h1, by omega⟩
    · exact .inl h
    · exact .inr ⟨h1, by omega⟩
  · rintro (h | ⟨h1, h2⟩)
    · exact .inr (.inl h)
    · rcases Int.lt_or_gt_of_ne h2 with h3 | h3
      · exact .inl ⟨h1, h3⟩
      · exact .inr (.inr ⟨h1, by omega⟩)
theorem mem_dropR {R : Tab} {k : Int} {p : Int × Int} : p ∈ dropR R k ↔ p ∈ R ∧ p.1 ≠ k := by
  unfold dropR dropT
  simp [List.mem_filter]

/-! keys that come twice -/
def twP (ks : List Int) : Option Nat := (List.range ks.length).find? fun k => decide (ks[k]! ∈ ks.take k)
theorem twP_none {ks : List Int} (h : ks.Nodup) : twP ks = none := by
  unfold twP
  rw [List.find?_eq_none]
  intro k hk hc
  have hk := List.mem_range.mp hk
  have hc : ks[k]! ∈ ks.take k := by simpa using hc
  rw [getElem!_pos ks k hk] at hc
  obtain ⟨j, hj, e⟩ := List.getElem_of_mem hc
  rw [List.length_take] at hj
  rw [List.getElem_take] at e
  exact List.pairwise_iff_getElem.mp h j k (by omega) hk (by omega) e
theorem twP_lt {ks : List Int} {k : Nat} (h : twP ks = some k) : k < ks.length := List.mem_range.mp (List.mem_of_find?_eq_some h)
/-! ranges as lists of numbers -/
theorem rng_eq (n : Nat) : rngL 0 n = (List.range n).map fun k : Nat => PyData.int (k : Int) := by
  unfold rngL
  refine List.map_congr_left fun k _ => ?_
  rw [Int.zero_add]
theorem small_nat {n : Nat} (h : n ≤ 1000000) : smallI (n : Int) = true := by
  unfold smallI
  rw [Bool.and_eq_true, decide_eq_true_eq, decide_eq_true_eq]
  omega
theorem ris_eq {a b : List Int} (h1 : a.Pairwise (· < ·)) (h2 : b.Pairwise (· < ·)) (h : ∀ k, k ∈ a ↔ k ∈ b) : a = b := by
  have nd : ∀ {l : List Int}, l.Pairwise (· < ·) → l.Nodup := fun z => z.imp fun {a b} z => Int.ne_of_lt z
  exact ((List.perm_ext_iff_of_nodup (nd h1) (nd h2)).mpr h).eq_of_pairwise (fun a b _ _ x y => absurd x (by omega)) h1 h2
theorem keys_asc {R : Tab} (h : Asc R) : (keysT R).Pairwise (· < ·) := List.Pairwise.map _ (fun _ _ z => z) h
theorem range_asc (n : Nat) (p : Nat → Bool) : (((List.range n).filter p).map fun k : Nat => (k : Int)).Pairwise (· < ·) :=
  List.Pairwise.map _ (fun a b (z : a < b) => by omega) (List.Pairwise.filter _ List.pairwise_lt_range)
section
variable {cond : EvB} {elt : Rf.Env → Res (RV × Rf.Env)}
theorem comp_id {i : Nat} {ρ : Rf.Env} (f : PyData → PyData) (hs : ρ[i]? = some none) (xs : List PyData)
    (hc : ∀ a ∈ xs, cond (ρ.set i (some (.v a))) = .ok (true, ρ.set i (some (.v a))))
    (he : ∀ a ∈ xs, ∃ r, elt (ρ.set i (some (.v a))) = .ok (r, ρ.set i (some (.v a))) ∧ keep r = some (f a))
    (hl : xs.length ≤ lim) : compR [i] (bindTg (.n i)) cond elt xs ρ [] = .ok (xs.map f, ρ) := by
  have := comp_na (g := fun x : PyData => x) f hs xs hc he hl
  rwa [List.map_id'] at this
end
theorem range_get {α β : Type} [Inhabited α] (f : α → β) (l : List α) : (List.range l.length).map (fun k => f l[k]!) = l.map f := by
  refine List.ext_getElem (by simp) fun i h1 h2 => ?_
  have : i < l.length := by simpa using h1
  simp [this]
theorem compQ_t {α : Type} {own : List Nat} {bind : PyData → Rf.Env → Option Rf.Env} {cond : EvB} {inner : Rf.Env → List PyData → Res (List PyData × Rf.Env)} {ρ : Rf.Env} (M : Nat) (g : α → PyData) (ρx : α → Rf.Env) (G : α → List PyData) :
    ∀ (xs : List α) (acc : List PyData), (∀ a ∈ xs, bind (g a) ρ = some (ρx a) ∧ cond (ρx a) = .ok (true, ρx a) ∧ (∀ acc : List PyData, acc.length + (G a).length ≤ M → inner (ρx a) acc = .ok (acc ++ G a, ρx a)) ∧ wipeE (ρx a) own = ρ) →
    acc.length + ((xs.map G).flatten).length ≤ M → compQ own bind cond inner (xs.map g) ρ acc = .ok (acc ++ (xs.map G).flatten, ρ)
  | [], acc, _, _ => by simp [compQ]
  | x :: xs, acc, h, hl => by
    obtain ⟨h1, h2, h3, h4⟩ := h x List.mem_cons_self
    have ih := fun acc => compQ_t (G := G) (ρ := ρ) M g ρx xs acc fun y hy => h y (List.mem_cons_of_mem _ hy)
    simp only [List.map_cons, List.flatten_cons, List.length_append] at hl
    have h5 := h3 acc (by omega)
    simp only [List.map_cons, compQ, h1, ofO_some, bnd_ok, h2, if_true, h5, h4, List.flatten_cons]
    rw [ih (acc ++ G x) (by simp only [List.length_append]; omega), List.append_assoc]
theorem at_mid {α : Type} (f : α → PyData) (A : List α) (s : α) (B : List α) : L2.atI ((A ++ s :: B).map f) ((A.length : Nat) : Int) = some (f s) := by
  have h : A.length < (A ++ s :: B).length := by simp
  rw [atI_map h]
  simp
theorem at_pre {α : Type} (f : α → PyData) (A : List α) (s : α) (B : List α) : L2.atI ((A ++ s :: B).map f) (((A.length + 1 : Nat) : Int) - 1) = some (f s) := by
  rw [show ((A.length + 1 : Nat) : Int) - 1 = ((A.length : Nat) : Int) by omega]
  exact at_mid f A s B
theorem wipe_3 {ρ : Rf.Env} {i j k : Nat} : wipeE ρ [i, j, k] = ((ρ.set k none).set j none).set i none := opq rfl
theorem unwipe_3 {ρ ρ' : Rf.Env} {i j k : Nat} : unwipe ρ ρ' [i, j, k] = ((ρ'.set k (slot ρ k)).set j (slot ρ j)).set i (slot ρ i) := opq rfl
theorem at_last {α : Type} (f : α → PyData) (A : List α) (t : α) : L2.atI ((A ++ [t]).map f) (-1) = some (f t) := by
  unfold L2.atI L2.ixN
  rw [if_neg (by decide), if_pos (by simp only [List.length_map, List.length_append, List.length_cons, List.length_nil]; omega)]
  have e : (-1 + (((A ++ [t]).map f).length : Int)).toNat = A.length := by simp only [List.length_map, List.length_append, List.length_cons, List.length_nil]; omega
  rw [e]
  simp
theorem set_last {α : Type} (f : α → PyData) (A : List α) (t u : α) : setD (.l ((A ++ [t]).map f)) (.int (-1)) (f u) = some (.l ((A ++ [u]).map f)) := by
  unfold setD L2.ixN
  dsimp only
  rw [if_neg (by decide), if_pos (by simp only [List.length_map, List.length_append, List.length_cons, List.length_nil]; omega)]
  have e : (-1 + (((A ++ [t]).map f).length : Int)).toNat = A.length := by simp only [List.length_map, List.length_append, List.length_cons, List.length_nil]; omega
  rw [e]
  simp
theorem rng_small {n : Nat} (h : n ≤ 1000000) : smallI ((n : Int) - 1) = true ∧ ((n : Int) - 1).toNat = n - 1 := by
  refine ⟨?_, by omega⟩
  unfold smallI
  rw [Bool.and_eq_true, decide_eq_true_eq, decide_eq_true_eq]
  omega
theorem slc_rng {xs : List PyData} {i j : Nat} (hi : i ≤ xs.length) (hj : i ≤ j) : slcD (.tuple xs) (some (i : Int)) (some (j : Int)) = some (.v (.tuple ((xs.take j).drop i))) := by
  by_cases c : j ≤ xs.length
  · exact slc_mid hi c
  · have e : slcD (.tuple xs) (some (i : Int)) (some (j : Int)) = some (.v (.tuple ((xs.drop (HT.sIx xs.length 0 (some (i : Int)))).take (HT.sIx xs.length xs.length (some (j : Int)) - HT.sIx xs.length 0 (some (i : Int)))))) := rfl
    rw [e, HT.sIx_nat, HT.sIx_nat, Nat.min_eq_left hi, Nat.min_eq_right (by omega), List.take_of_length_le (by rw [List.length_drop]; omega), List.take_of_length_le (l := xs) (by omega)]



def rowD (b : Tab) : PyData := .tuple (b.map pairD)
structure FOk (A R : Tab) : Prop where
  nd : (keysT A).Nodup
  mem : ∀ p : Int × Int, p ∈ A ↔ p ∈ R
def without (A : Tab) (k : Int) : Tab := A.filter fun p => !decide (p.1 = k)
theorem fok_len {A R : Tab} (h : FOk A R) (hR : RowOk R) : A.length ≤ 40 := by
  have nd : ∀ {A : Tab}, (keysT A).Nodup → A.Nodup := fun {A} h => by
    unfold keysT List.Nodup at h
    rw [List.pairwise_map] at h
    exact h.imp fun h e => h (by rw [e])
  have := (List.perm_ext_iff_of_nodup (nd h.nd) (nd (asc_keys hR.1))).mpr h.mem |>.length_eq
  have := hR.2.1
  omega
theorem fok_in {A R : Tab} (h : FOk A R) (hR : RowOk R) : ∀ p ∈ A, in99 p.1 ∧ in99 p.2 := fun p hp => hR.2.2 p ((h.mem p).mp hp)
theorem fok_look {A R : Tab} (h : FOk A R) (hR : RowOk R) (k : Int) : lookT A k = lookT R k := look_ext h.nd (asc_keys hR.1) h.mem k
theorem wo_len {A : Tab} {k : Int} : (without A k).length ≤ A.length := List.length_filter_le _ _
theorem fok_put {A R : Tab} (h : FOk A R) (k v : Int) : FOk ((k, v) :: without A k) (insR R k v) := by
  refine ⟨List.nodup_cons.mpr ⟨fun hc => ?_, h.nd.sublist ((List.filter_sublist (l := A)).map _)⟩, fun p => ?_⟩
  · obtain ⟨p, hp, e⟩ := List.mem_map.mp hc
    have := (List.mem_filter.mp hp).2
    simp only [Bool.not_eq_true', decide_eq_false_iff_not] at this
    exact this e
  · rw [mem_ins, ← h.mem, List.mem_cons, without, List.mem_filter]
    simp
theorem fok_drop {A R : Tab} (h : FOk A R) (k : Int) : FOk (without A k) (dropR R k) :=
  ⟨h.nd.sublist ((List.filter_sublist (l := A)).map _), fun p => by rw [mem_dropR, ← h.mem, without, List.mem_filter]; simp⟩
theorem fok_nil : FOk [] [] := ⟨List.nodup_nil, fun _ => Iff.rfl⟩
theorem s_look (n : Nat) (h : 1 ≤ n) (A : Tab) (k : Int) : run T n Flook [.v (rowD A), .v (.int k)] = .ok (.v (optI (lookT A k)), []) := by
  obtain ⟨n, rfl⟩ := ex_add h
  rw [run_look]
  have ef := for_t (i := 2) (j := 3) (ρ := [some (.v (rowD A)), some (.v (.int k)), none, none]) (body := evSs (run T n) u_look_2) (fun p : Int × Int => .int p.1) (fun p => .int p.2) (fun p => decide (p.1 = k)) (fun p => .v (.int p.2)) (by decide) rfl rfl rfl rfl A (fun p _ => by
    by_cases e : p.1 = k <;> simp only [u_look_2, u_look_3, ro_w, ro_x, ro_y, ro_0, ro_1, ro_2, ro_3, ro_4, ro_5, ro_6, ro_7, ro_8, ro_9, ro_10, ro_11, ro_12, ro_13, ro_14, ro_15, ro_16, ro_17, ro_18, ro_19, ro_20, ro_21, ro_22, ro_23, List.length_map, reduceIte, reduceCtorEq, Bool.false_eq_true, Bool.not_true, Bool.not_false, Bool.true_and, Bool.and_true, Bool.false_and, Bool.and_false, decide_eq_true_eq, decide_true, decide_false, Bool.or_true, Bool.true_or, Bool.or_false, Bool.false_or, Bool.not_eq_true', decide_eq_false_iff_not, not_true_eq_false, not_false_eq_true, and_self, and_true, true_and, or_true, true_or, or_false, false_or, ne_eq, eq_self, Int.ofNat_lt, Int.ofNat_le, Nat.reduceSub, Nat.reduceAdd, Nat.reduceLT, Nat.reduceLeDiff, Nat.reduceEqDiff, Int.reduceLT, Int.reduceLE, Int.reduceAdd, Int.reduceSub, Int.reduceNeg, Int.reduceMul, Int.reducePow, Nat.reducePow, Int.reduceMod, Int.reduceDiv, Int.reduceToNat, Int.reduceEq, Nat.reduceMul, Int.reduceNegSucc, Nat.zero_le, ro_non, eq_ii, ne_ii, eq_ss, ne_ss, eq_bb, ne_bb, e])
  unfold lookT
  simp only [rowD, pairD_fn] at ef ⊢
  cases hq : A.find? fun p => decide (p.1 = k) with
  | some p =>
    have e1 := ef.1 p hq
    simp only [f_look, t_look, u_look_0, u_look_1, ro_w, ro_x, ro_y, ro_0, ro_1, ro_2, ro_3, ro_4, ro_5, ro_6, ro_7, ro_8, ro_9, ro_10, ro_11, ro_12, ro_13, ro_14, ro_15, ro_16, ro_17, ro_18, ro_19, ro_20, ro_21, ro_22, ro_23, List.length_map, reduceIte, reduceCtorEq, Bool.false_eq_true, Bool.not_true, Bool.not_false, Bool.true_and, Bool.and_true, Bool.false_and, Bool.and_false, decide_eq_true_eq, decide_true, decide_false, Bool.or_true, Bool.true_or, Bool.or_false, Bool.false_or, Bool.not_eq_true', decide_eq_false_iff_not, not_true_eq_false, not_false_eq_true, and_self, and_true, true_and, or_true, true_or, or_false, false_or, ne_eq, eq_self, Int.ofNat_lt, Int.ofNat_le, Nat.reduceSub, Nat.reduceAdd, Nat.reduceLT, Nat.reduceLeDiff, Nat.reduceEqDiff, Int.reduceLT, Int.reduceLE, Int.reduceAdd, Int.reduceSub, Int.reduceNeg, Int.reduceMul, Int.reducePow, Nat.reducePow, Int.reduceMod, Int.reduceDiv, Int.reduceToNat, Int.reduceEq, Nat.reduceMul, Int.reduceNegSucc, Nat.zero_le, ro_non, e1, optI]
  | none =>
    obtain ⟨y, z, hy, hz2, e1⟩ := ef.2 hq
    simp only [f_look, t_look, u_look_0, u_look_1, ro_w, ro_x, ro_y, ro_0, ro_1, ro_2, ro_3, ro_4, ro_5, ro_6, ro_7, ro_8, ro_9, ro_10, ro_11, ro_12, ro_13, ro_14, ro_15, ro_16, ro_17, ro_18, ro_19, ro_20, ro_21, ro_22, ro_23, List.length_map, reduceIte, reduceCtorEq, Bool.false_eq_true, Bool.not_true, Bool.not_false, Bool.true_and, Bool.and_true, Bool.false_and, Bool.and_false, decide_eq_true_eq, decide_true, decide_false, Bool.or_true, Bool.true_or, Bool.or_false, Bool.false_or, Bool.not_eq_true', decide_eq_false_iff_not, not_true_eq_false, not_false_eq_true, and_self, and_true, true_and, or_true, true_or, or_false, false_or, ne_eq, eq_self, Int.ofNat_lt, Int.ofNat_le, Nat.reduceSub, Nat.reduceAdd, Nat.reduceLT, Nat.reduceLeDiff, Nat.reduceEqDiff, Int.reduceLT, Int.reduceLE, Int.reduceAdd, Int.reduceSub, Int.reduceNeg, Int.reduceMul, Int.reducePow, Nat.reducePow, Int.reduceMod, Int.reduceDiv, Int.reduceToNat, Int.reduceEq, Nat.reduceMul, Int.reduceNegSucc, Nat.zero_le, ro_non, e1, optI]
theorem s_drop (n : Nat) (h : 1 ≤ n) (A : Tab) (hl : A.length ≤ 1000) (k : Int) : run T n Fdrop_fronts [.v (rowD A), .v (.int k)] = .ok (.v (rowD (without A k)), []) := by
  have hz : lim = 16777216 := rfl
  obtain ⟨n, rfl⟩ := ex_add h
  rw [run_drop_fronts]
  have ec := comp_nf (cond := evC (run T n) q_drop_fronts_0) (elt := ev (run T n) e_drop_fronts_0) (i := 2) (ρ := [some (.v (rowD A)), some (.v (.int k)), none]) pairD (fun p => !decide (p.1 = k)) pairD rfl A
    (fun p _ => by simp only [q_drop_fronts_0, ro_w, ro_x, ro_y, ro_0, ro_1, ro_2, ro_3, ro_4, ro_5, ro_6, ro_7, ro_8, ro_9, ro_10, ro_11, ro_12, ro_13, ro_14, ro_15, ro_16, ro_17, ro_18, ro_19, ro_20, ro_21, ro_22, ro_23, List.length_map, reduceIte, reduceCtorEq, Bool.false_eq_true, Bool.not_true, Bool.not_false, Bool.true_and, Bool.and_true, Bool.false_and, Bool.and_false, decide_eq_true_eq, decide_true, decide_false, Bool.or_true, Bool.true_or, Bool.or_false, Bool.false_or, Bool.not_eq_true', decide_eq_false_iff_not, not_true_eq_false, not_false_eq_true, and_self, and_true, true_and, or_true, true_or, or_false, false_or, ne_eq, eq_self, Int.ofNat_lt, Int.ofNat_le, Nat.reduceSub, Nat.reduceAdd, Nat.reduceLT, Nat.reduceLeDiff, Nat.reduceEqDiff, Int.reduceLT, Int.reduceLE, Int.reduceAdd, Int.reduceSub, Int.reduceNeg, Int.reduceMul, Int.reducePow, Nat.reducePow, Int.reduceMod, Int.reduceDiv, Int.reduceToNat, Int.reduceEq, Nat.reduceMul, Int.reduceNegSucc, Nat.zero_le, ro_non, eq_ii, ne_ii, eq_ss, ne_ss, eq_bb, ne_bb, pairD]) (fun p _ _ => ⟨.v (pairD p), by simp only [e_drop_fronts_0, ro_w, ro_x, ro_y, ro_0, ro_1, ro_2, ro_3, ro_4, ro_5, ro_6, ro_7, ro_8, ro_9, ro_10, ro_11, ro_12, ro_13, ro_14, ro_15, ro_16, ro_17, ro_18, ro_19, ro_20, ro_21, ro_22, ro_23, List.length_map, reduceIte, reduceCtorEq, Bool.false_eq_true, Bool.not_true, Bool.not_false, Bool.true_and, Bool.and_true, Bool.false_and, Bool.and_false, decide_eq_true_eq, decide_true, decide_false, Bool.or_true, Bool.true_or, Bool.or_false, Bool.false_or, Bool.not_eq_true', decide_eq_false_iff_not, not_true_eq_false, not_false_eq_true, and_self, and_true, true_and, or_true, true_or, or_false, false_or, ne_eq, eq_self, Int.ofNat_lt, Int.ofNat_le, Nat.reduceSub, Nat.reduceAdd, Nat.reduceLT, Nat.reduceLeDiff, Nat.reduceEqDiff, Int.reduceLT, Int.reduceLE, Int.reduceAdd, Int.reduceSub, Int.reduceNeg, Int.reduceMul, Int.reducePow, Nat.reducePow, Int.reduceMod, Int.reduceDiv, Int.reduceToNat, Int.reduceEq, Nat.reduceMul, Int.reduceNegSucc, Nat.zero_le, ro_non], rfl⟩) (by omega)
  simp only [rowD] at ec ⊢
  simp only [f_drop_fronts, t_drop_fronts, u_drop_fronts_0, ro_w, ro_x, ro_y, ro_0, ro_1, ro_2, ro_3, ro_4, ro_5, ro_6, ro_7, ro_8, ro_9, ro_10, ro_11, ro_12, ro_13, ro_14, ro_15, ro_16, ro_17, ro_18, ro_19, ro_20, ro_21, ro_22, ro_23, List.length_map, reduceIte, reduceCtorEq, Bool.false_eq_true, Bool.not_true, Bool.not_false, Bool.true_and, Bool.and_true, Bool.false_and, Bool.and_false, decide_eq_true_eq, decide_true, decide_false, Bool.or_true, Bool.true_or, Bool.or_false, Bool.false_or, Bool.not_eq_true', decide_eq_false_iff_not, not_true_eq_false, not_false_eq_true, and_self, and_true, true_and, or_true, true_or, or_false, false_or, ne_eq, eq_self, Int.ofNat_lt, Int.ofNat_le, Nat.reduceSub, Nat.reduceAdd, Nat.reduceLT, Nat.reduceLeDiff, Nat.reduceEqDiff, Int.reduceLT, Int.reduceLE, Int.reduceAdd, Int.reduceSub, Int.reduceNeg, Int.reduceMul, Int.reducePow, Nat.reducePow, Int.reduceMod, Int.reduceDiv, Int.reduceToNat, Int.reduceEq, Nat.reduceMul, Int.reduceNegSucc, Nat.zero_le, ro_non, ec, without]
theorem s_put (n : Nat) (h : 2 ≤ n) (A : Tab) (hl : A.length ≤ 1000) (k v : Int) : run T n Fput_fronts [.v (rowD A), .v (.int k), .v (.int v)] = .ok (.v (rowD ((k, v) :: without A k)), []) := by
  have hz : lim = 16777216 := rfl
  obtain ⟨n, rfl⟩ := ex_add (show 1 ≤ n by omega)
  rw [run_put_fronts]
  have e := s_drop n (by omega) A hl k
  have := wo_len (A := A) (k := k)
  have q : 1 + (without A k).length ≤ lim := by omega
  simp only [rowD] at e ⊢
  simp only [f_put_fronts, t_put_fronts, u_put_fronts_0, ro_w, ro_x, ro_y, ro_0, ro_1, ro_2, ro_3, ro_4, ro_5, ro_6, ro_7, ro_8, ro_9, ro_10, ro_11, ro_12, ro_13, ro_14, ro_15, ro_16, ro_17, ro_18, ro_19, ro_20, ro_21, ro_22, ro_23, List.length_map, reduceIte, reduceCtorEq, Bool.false_eq_true, Bool.not_true, Bool.not_false, Bool.true_and, Bool.and_true, Bool.false_and, Bool.and_false, decide_eq_true_eq, decide_true, decide_false, Bool.or_true, Bool.true_or, Bool.or_false, Bool.false_or, Bool.not_eq_true', decide_eq_false_iff_not, not_true_eq_false, not_false_eq_true, and_self, and_true, true_and, or_true, true_or, or_false, false_or, ne_eq, eq_self, Int.ofNat_lt, Int.ofNat_le, Nat.reduceSub, Nat.reduceAdd, Nat.reduceLT, Nat.reduceLeDiff, Nat.reduceEqDiff, Int.reduceLT, Int.reduceLE, Int.reduceAdd, Int.reduceSub, Int.reduceNeg, Int.reduceMul, Int.reducePow, Nat.reducePow, Int.reduceMod, Int.reduceDiv, Int.reduceToNat, Int.reduceEq, Nat.reduceMul, Int.reduceNegSucc, Nat.zero_le, ro_non, e, q, pairD]
theorem s_moved (n : Nat) (h : 3 ≤ n) (A : Tab) (hl : A.length ≤ 1000) (k : Int) : run T n Fmoved_up [.v (rowD A), .v (.int k)] = .ok (.v (rowD (match lookT A k with | some v => (k, v) :: without A k | none => A)), []) := by
  obtain ⟨n, rfl⟩ := ex_add (show 1 ≤ n by omega)
  rw [run_moved_up]
  have e := s_look n (by omega) A k
  cases hq : lookT A k with
  | none =>
    rw [hq] at e
    simp only [f_moved_up, t_moved_up, u_moved_up_0, u_moved_up_1, ro_w, ro_x, ro_y, ro_0, ro_1, ro_2, ro_3, ro_4, ro_5, ro_6, ro_7, ro_8, ro_9, ro_10, ro_11, ro_12, ro_13, ro_14, ro_15, ro_16, ro_17, ro_18, ro_19, ro_20, ro_21, ro_22, ro_23, List.length_map, reduceIte, reduceCtorEq, Bool.false_eq_true, Bool.not_true, Bool.not_false, Bool.true_and, Bool.and_true, Bool.false_and, Bool.and_false, decide_eq_true_eq, decide_true, decide_false, Bool.or_true, Bool.true_or, Bool.or_false, Bool.false_or, Bool.not_eq_true', decide_eq_false_iff_not, not_true_eq_false, not_false_eq_true, and_self, and_true, true_and, or_true, true_or, or_false, false_or, ne_eq, eq_self, Int.ofNat_lt, Int.ofNat_le, Nat.reduceSub, Nat.reduceAdd, Nat.reduceLT, Nat.reduceLeDiff, Nat.reduceEqDiff, Int.reduceLT, Int.reduceLE, Int.reduceAdd, Int.reduceSub, Int.reduceNeg, Int.reduceMul, Int.reducePow, Nat.reducePow, Int.reduceMod, Int.reduceDiv, Int.reduceToNat, Int.reduceEq, Nat.reduceMul, Int.reduceNegSucc, Nat.zero_le, ro_non, e, optI]
  | some v =>
    rw [hq] at e
    have e2 := s_put n (by omega) A hl k v
    simp only [f_moved_up, t_moved_up, u_moved_up_0, u_moved_up_1, ro_w, ro_x, ro_y, ro_0, ro_1, ro_2, ro_3, ro_4, ro_5, ro_6, ro_7, ro_8, ro_9, ro_10, ro_11, ro_12, ro_13, ro_14, ro_15, ro_16, ro_17, ro_18, ro_19, ro_20, ro_21, ro_22, ro_23, List.length_map, reduceIte, reduceCtorEq, Bool.false_eq_true, Bool.not_true, Bool.not_false, Bool.true_and, Bool.and_true, Bool.false_and, Bool.and_false, decide_eq_true_eq, decide_true, decide_false, Bool.or_true, Bool.true_or, Bool.or_false, Bool.false_or, Bool.not_eq_true', decide_eq_false_iff_not, not_true_eq_false, not_false_eq_true, and_self, and_true, true_and, or_true, true_or, or_false, false_or, ne_eq, eq_self, Int.ofNat_lt, Int.ofNat_le, Nat.reduceSub, Nat.reduceAdd, Nat.reduceLT, Nat.reduceLeDiff, Nat.reduceEqDiff, Int.reduceLT, Int.reduceLE, Int.reduceAdd, Int.reduceSub, Int.reduceNeg, Int.reduceMul, Int.reducePow, Nat.reducePow, Int.reduceMod, Int.reduceDiv, Int.reduceToNat, Int.reduceEq, Nat.reduceMul, Int.reduceNegSucc, Nat.zero_le, ro_non, e, e2, optI]
theorem s_rowsF (n : Nat) (h : 80 ≤ n) (R : Tab) (hR : RowOk R) (A : Tab) (hA : FOk A R) : run T n Frows_fronts [.v (rowD A)] = .ok (.v (.tuple (R.map pairD)), []) := by
  obtain ⟨n, rfl⟩ := ex_add (show 1 ≤ n by omega)
  rw [run_rows_fronts]
  have e := (p_sortP hA.nd hR hA.mem (by have := fok_len hA hR; omega)).2
  simp only [f_rows_fronts, t_rows_fronts, u_rows_fronts_0, ro_w, ro_x, ro_y, ro_0, ro_1, ro_2, ro_3, ro_4, ro_5, ro_6, ro_7, ro_8, ro_9, ro_10, ro_11, ro_12, ro_13, ro_14, ro_15, ro_16, ro_17, ro_18, ro_19, ro_20, ro_21, ro_22, ro_23, List.length_map, reduceIte, reduceCtorEq, Bool.false_eq_true, Bool.not_true, Bool.not_false, Bool.true_and, Bool.and_true, Bool.false_and, Bool.and_false, decide_eq_true_eq, decide_true, decide_false, Bool.or_true, Bool.true_or, Bool.or_false, Bool.false_or, Bool.not_eq_true', decide_eq_false_iff_not, not_true_eq_false, not_false_eq_true, and_self, and_true, true_and, or_true, true_or, or_false, false_or, ne_eq, eq_self, Int.ofNat_lt, Int.ofNat_le, Nat.reduceSub, Nat.reduceAdd, Nat.reduceLT, Nat.reduceLeDiff, Nat.reduceEqDiff, Int.reduceLT, Int.reduceLE, Int.reduceAdd, Int.reduceSub, Int.reduceNeg, Int.reduceMul, Int.reducePow, Nat.reducePow, Int.reduceMod, Int.reduceDiv, Int.reduceToNat, Int.reduceEq, Nat.reduceMul, Int.reduceNegSucc, Nat.zero_le, ro_non, rowD, e]

/-! trees: plain -/
inductive Tr where
  | nil
  | nd (l : Tr) (k v : Int) (r : Tr)
def trD : Tr → PyData
  | .nil => .tuple []
  | .nd l k v r => .tuple [.int k, .int v, trD l, trD r]
def rowsT : Tr → Tab
  | .nil => []
  | .nd l k v r => rowsT l ++ (k, v) :: rowsT r
def depT : Tr → Nat
  | .nil => 0
  | .nd l _ _ r => max (depT l) (depT r) + 1
def sizT : Tr → Nat
  | .nil => 0
  | .nd l _ _ r => sizT l + sizT r + 1
def okT (t : Tr) : Prop := ∀ p ∈ rowsT t, in99 p.1 ∧ in99 p.2
theorem len_rowsT : ∀ {t : Tr}, (rowsT t).length = sizT t
  | .nil => rfl
  | .nd l k v r => by simp only [rowsT, sizT, List.length_append, List.length_cons, len_rowsT]; omega
theorem dep_siz : ∀ {t : Tr}, depT t ≤ sizT t
  | .nil => Nat.le_refl _
  | .nd l k v r => by
    have := dep_siz (t := l)
    have := dep_siz (t := r)
    simp only [depT, sizT]; omega
theorem sz_trD : ∀ {t : Tr}, sz (trD t) = 4 * sizT t + 1
  | .nil => rfl
  | .nd l k v r => by
    simp only [trD, sz, szs, sizT, sz_trD]; omega
theorem okT_nd {l r : Tr} {k v : Int} : okT (.nd l k v r) ↔ okT l ∧ (in99 k ∧ in99 v) ∧ okT r := by
  unfold okT
  simp only [rowsT, List.mem_append, List.mem_cons]
  constructor
  · intro h
    exact ⟨fun p hp => h p (.inl hp), h (k, v) (.inr (.inl rfl)), fun p hp => h p (.inr (.inr hp))⟩
  · rintro ⟨h1, h2, h3⟩ p (hp | rfl | hp)
    · exact h1 p hp
    · exact h2
    · exact h3 p hp
/-- the form of a tree -/
def hasF : Nat → PyData → Bool
  | 0, d => match d with
    | .tuple [] => true
    | _ => false
  | n + 1, d => match d with
    | .tuple [] => true
    | .tuple [k, v, l, r] => inRng 0 99 k && inRng 0 99 v && hasF n l && hasF n r
    | _ => false
theorem okT_nil : okT .nil := fun p hp => absurd hp (by simp [rowsT])
theorem hasF_of : ∀ {n : Nat} {d : PyData}, hasF n d = true → ∃ t, d = trD t ∧ okT t ∧ depT t ≤ n
  | 0, d, h => by
    simp only [hasF] at h
    split at h
    · exact ⟨.nil, rfl, okT_nil, Nat.le_refl _⟩
    · cases h
  | n + 1, d, h => by
    simp only [hasF] at h
    split at h
    · exact ⟨.nil, rfl, okT_nil, Nat.zero_le _⟩
    · rename_i k v l r
      simp only [Bool.and_eq_true] at h
      obtain ⟨⟨⟨h1, h2⟩, h3⟩, h4⟩ := h
      obtain ⟨tl, rfl, ol, dl⟩ := hasF_of h3
      obtain ⟨tr, rfl, or', dr⟩ := hasF_of h4
      cases k with
      | int k =>
        cases v with
        | int v =>
          simp only [inRng, Bool.and_eq_true, decide_eq_true_eq] at h1 h2
          exact ⟨.nd tl k v tr, rfl, okT_nd.mpr ⟨ol, ⟨h1, h2⟩, or'⟩, by simp only [depT]; omega⟩
        | _ => simp [inRng] at h2
      | _ => simp [inRng] at h1
    · cases h
theorem hasF_tr : ∀ {n : Nat} {t : Tr}, okT t → depT t ≤ n → hasF n (trD t) = true
  | 0, .nil, _, _ => rfl
  | n + 1, .nil, _, _ => rfl
  | 0, .nd l k v r, _, h => by simp [depT] at h
  | n + 1, .nd l k v r, ho, h => by
    obtain ⟨h1, h2, h3⟩ := okT_nd.mp ho
    simp only [depT] at h
    have e1 := hasF_tr (n := n) h1 (by omega)
    have e2 := hasF_tr (n := n) h3 (by omega)
    show (inRng 0 99 (.int k) && inRng 0 99 (.int v) && hasF n (trD l) && hasF n (trD r)) = true
    rw [e1, e2]
    simp [inRng, h2.1.1, h2.1.2, h2.2.1, h2.2.2]
theorem nz_trD {L : Nat} : ∀ {t : Tr} {D : Nat}, okT t → 4 ≤ L → depT t + 1 ≤ D → nz L D (trD t)
  | .nil, D, _, _, hD => by
    obtain ⟨D, rfl⟩ : ∃ m, D = m + 1 := ⟨D - 1, by simp only [depT] at hD; omega⟩
    exact nz_ofT (by simp) (by simp)
  | .nd l k v r, D, ho, hL, hD => by
    obtain ⟨D, rfl⟩ : ∃ m, D = m + 1 := ⟨D - 1, by omega⟩
    obtain ⟨h1, h2, h3⟩ := okT_nd.mp ho
    simp only [depT] at hD
    refine nz_ofT (by simpa using hL) fun x hx => ?_
    simp only [List.mem_cons, List.not_mem_nil, or_false] at hx
    have a := h2.1
    have b := h2.2
    unfold in99 at a b
    rcases hx with rfl | rfl | rfl | rfl
    · simp only [nz]; omega
    · simp only [nz]; omega
    · exact nz_trD h1 hL (by omega)
    · exact nz_trD h3 hL (by omega)
theorem sh_trD : ∀ {t : Tr}, okT t → shB (trD t) = true ∧ (trD t).depth ≤ depT t + 1 ∧ (trD t).weight ≤ 20 * sizT t
  | .nil, _ => ⟨rfl, by decide, by decide⟩
  | .nd l k v r, ho => by
    obtain ⟨h1, h2, h3⟩ := okT_nd.mp ho
    obtain ⟨a1, a2, a3⟩ := sh_trD h1
    obtain ⟨b1, b2, b3⟩ := sh_trD h3
    have w1 := weight_small h2.1
    have w2 := weight_small h2.2
    refine ⟨?_, ?_, ?_⟩
    · show (shB (.int k) && (shB (.int v) && (shB (trD l) && (shB (trD r) && true)))) = true
      rw [sh_int h2.1, sh_int h2.2, a1, b1]; rfl
    · show max (PyData.int k).depth (max (PyData.int v).depth (max (trD l).depth (max (trD r).depth 0))) + 1 ≤ _
      simp only [depT, PyData.depth]; omega
    · show (PyData.int k).weight + 1 + ((PyData.int v).weight + 1 + ((trD l).weight + 1 + ((trD r).weight + 1 + 0))) ≤ _
      simp only [sizT]; omega
/-! the walk with a stack: the nodes that wait, the last one ahead -/
abbrev Nd := Tr × Int × Int × Tr
def ndD (x : Nd) : PyData := trD (.nd x.1 x.2.1 x.2.2.1 x.2.2.2)
def restS : List Nd → Tab
  | [] => []
  | x :: st => (x.2.1, x.2.2.1) :: rowsT x.2.2.2 ++ restS st
def sizS : List Nd → Nat
  | [] => 0
  | x :: st => sizT x.2.2.2 + 1 + sizS st
def pushL : Tr → List Nd → List Nd
  | .nil, st => st
  | .nd l k v r, st => pushL l ((l, k, v, r) :: st)
theorem rest_push : ∀ {t : Tr} {st : List Nd}, restS (pushL t st) = rowsT t ++ restS st
  | .nil, _ => rfl
  | .nd l k v r, st => by
    rw [pushL, rest_push]
    simp [restS, rowsT]
theorem siz_push : ∀ {t : Tr} {st : List Nd}, sizS (pushL t st) = sizT t + sizS st
  | .nil, _ => by simp [pushL, sizT]
  | .nd l k v r, st => by
    rw [pushL, siz_push]
    simp only [sizS, sizT]; omega
theorem push_ne {l r : Tr} {k v : Int} {st : List Nd} : pushL (.nd l k v r) st ≠ [] := by
  have aux : ∀ (t : Tr) (st : List Nd), st ≠ [] → pushL t st ≠ [] := fun t => by
    induction t with
    | nil => exact fun st h => h
    | nd l k v r ih _ => exact fun st _ => ih _ (by simp)
  exact aux l _ (by simp)
theorem len_sizS : ∀ {st : List Nd}, st.length ≤ sizS st
  | [] => Nat.le_refl _
  | x :: st => by
    have := len_sizS (st := st)
    simp only [List.length_cons, sizS]; omega

theorem ndD_eq {x : Nd} : ndD x = .tuple [.int x.2.1, .int x.2.2.1, trD x.1, trD x.2.2.2] := rfl
theorem inner_rows (n : Nat) (s f : Option SV) (x4 : Option SV) (t : Tr) (st : List Nd) (hb : st.length + depT t ≤ 900000) :
    whileR (ev (run T n) (.cmp .gt (.prm .len (.cons (.var 3) .nil)) (.int 0))) (evSs (run T n) u_tree_rows_9) fuel [s, f, some (.m (.l (st.reverse.map ndD))), some (.v (trD t)), x4]
      = .ok (.nxt [s, f, some (.m (.l ((pushL t st).reverse.map ndD))), some (.v (.tuple [])), x4]) := by
  have hz : lim = 16777216 := rfl
  obtain ⟨ρ', e, hρ⟩ := while_inv (c := ev (run T n) (.cmp .gt (.prm .len (.cons (.var 3) .nil)) (.int 0))) (body := evSs (run T n) u_tree_rows_9)
    (I := fun m ρ => ∃ (t' : Tr) (st' : List Nd), pushL t' st' = pushL t st ∧ m = depT t' ∧ st'.length + depT t' ≤ 900000 ∧ ρ = [s, f, some (.m (.l (st'.reverse.map ndD))), some (.v (trD t')), x4])
    (Q := fun ρ => ρ = [s, f, some (.m (.l ((pushL t st).reverse.map ndD))), some (.v (.tuple [])), x4])
    (fun m ρ ⟨t', st', h1, h2, h3, hρ⟩ => by
      subst hρ
      cases t' with
      | nil =>
        refine .inl ⟨[s, f, some (.m (.l (st'.reverse.map ndD))), some (.v (.tuple [])), x4], by simp only [ro_w, ro_x, ro_y, ro_0, ro_1, ro_2, ro_3, ro_4, ro_5, ro_6, ro_7, ro_8, ro_9, ro_10, ro_11, ro_12, ro_13, ro_14, ro_15, ro_16, ro_17, ro_18, ro_19, ro_20, ro_21, ro_22, ro_23, List.length_map, reduceIte, reduceCtorEq, Bool.false_eq_true, Bool.not_true, Bool.not_false, Bool.true_and, Bool.and_true, Bool.false_and, Bool.and_false, decide_eq_true_eq, decide_true, decide_false, Bool.or_true, Bool.true_or, Bool.or_false, Bool.false_or, Bool.not_eq_true', decide_eq_false_iff_not, not_true_eq_false, not_false_eq_true, and_self, and_true, true_and, or_true, true_or, or_false, false_or, ne_eq, eq_self, Int.ofNat_lt, Int.ofNat_le, Nat.reduceSub, Nat.reduceAdd, Nat.reduceLT, Nat.reduceLeDiff, Nat.reduceEqDiff, Int.reduceLT, Int.reduceLE, Int.reduceAdd, Int.reduceSub, Int.reduceNeg, Int.reduceMul, Int.reducePow, Nat.reducePow, Int.reduceMod, Int.reduceDiv, Int.reduceToNat, Int.reduceEq, Nat.reduceMul, Int.reduceNegSucc, Nat.zero_le, ro_non, trD, Int.lt_irrefl], ?_⟩
        rw [← h1]; rfl
      | nd l k v r =>
        simp only [depT] at h2 h3
        refine .inr ⟨[s, f, some (.m (.l (st'.reverse.map ndD))), some (.v (trD (.nd l k v r))), x4], [s, f, some (.m (.l (((l, k, v, r) :: st').reverse.map ndD))), some (.v (trD l)), x4], depT l, by simp only [ro_w, ro_x, ro_y, ro_0, ro_1, ro_2, ro_3, ro_4, ro_5, ro_6, ro_7, ro_8, ro_9, ro_10, ro_11, ro_12, ro_13, ro_14, ro_15, ro_16, ro_17, ro_18, ro_19, ro_20, ro_21, ro_22, ro_23, List.length_map, reduceIte, reduceCtorEq, Bool.false_eq_true, Bool.not_true, Bool.not_false, Bool.true_and, Bool.and_true, Bool.false_and, Bool.and_false, decide_eq_true_eq, decide_true, decide_false, Bool.or_true, Bool.true_or, Bool.or_false, Bool.false_or, Bool.not_eq_true', decide_eq_false_iff_not, not_true_eq_false, not_false_eq_true, and_self, and_true, true_and, or_true, true_or, or_false, false_or, ne_eq, eq_self, Int.ofNat_lt, Int.ofNat_le, Nat.reduceSub, Nat.reduceAdd, Nat.reduceLT, Nat.reduceLeDiff, Nat.reduceEqDiff, Int.reduceLT, Int.reduceLE, Int.reduceAdd, Int.reduceSub, Int.reduceNeg, Int.reduceMul, Int.reducePow, Nat.reducePow, Int.reduceMod, Int.reduceDiv, Int.reduceToNat, Int.reduceEq, Nat.reduceMul, Int.reduceNegSucc, Nat.zero_le, ro_non, trD], .inl ?_, by omega, l, (l, k, v, r) :: st', by rw [← h1]; rfl, rfl, by simp only [List.length_cons]; omega, rfl⟩
        have q1 : st'.length < lim := by omega
        simp only [u_tree_rows_9, u_tree_rows_10, ro_w, ro_x, ro_y, ro_0, ro_1, ro_2, ro_3, ro_4, ro_5, ro_6, ro_7, ro_8, ro_9, ro_10, ro_11, ro_12, ro_13, ro_14, ro_15, ro_16, ro_17, ro_18, ro_19, ro_20, ro_21, ro_22, ro_23, List.length_map, reduceIte, reduceCtorEq, Bool.false_eq_true, Bool.not_true, Bool.not_false, Bool.true_and, Bool.and_true, Bool.false_and, Bool.and_false, decide_eq_true_eq, decide_true, decide_false, Bool.or_true, Bool.true_or, Bool.or_false, Bool.false_or, Bool.not_eq_true', decide_eq_false_iff_not, not_true_eq_false, not_false_eq_true, and_self, and_true, true_and, or_true, true_or, or_false, false_or, ne_eq, eq_self, Int.ofNat_lt, Int.ofNat_le, Nat.reduceSub, Nat.reduceAdd, Nat.reduceLT, Nat.reduceLeDiff, Nat.reduceEqDiff, Int.reduceLT, Int.reduceLE, Int.reduceAdd, Int.reduceSub, Int.reduceNeg, Int.reduceMul, Int.reducePow, Nat.reducePow, Int.reduceMod, Int.reduceDiv, Int.reduceToNat, Int.reduceEq, Nat.reduceMul, Int.reduceNegSucc, Nat.zero_le, ro_non, trD, List.length_reverse, q1, List.reverse_cons, List.map_append, ndD]) fuel (depT t) _ ⟨t, st, rfl, rfl, hb, rfl⟩ (by unfold fuel; omega)
  rw [e, hρ]
theorem s_tree_rows (n : Nat) (h : 1 ≤ n) (t0 : Tr) (hs : sizT t0 ≤ 100000) : run T n Ftree_rows [.v (trD t0)] = .ok (.v (.tuple ((rowsT t0).map pairD)), []) := by
  have hz : lim = 16777216 := rfl
  obtain ⟨n, rfl⟩ := ex_add h
  rw [run_tree_rows]
  obtain ⟨ρ', e, x4, hρ⟩ := while_inv (c := ev (run T n) (.or (.cmp .gt (.prm .len (.cons (.var 3) .nil)) (.int 0)) (.cmp .gt (.prm .len (.cons (.var 2) .nil)) (.int 0)))) (body := evSs (run T n) u_tree_rows_5)
    (I := fun m ρ => ∃ (t : Tr) (st : List Nd) (acc : Tab) (x4 : Option SV), acc ++ (rowsT t ++ restS st) = rowsT t0 ∧ m = sizT t + sizS st ∧ ρ = [some (.v (trD t0)), some (.m (.l (acc.map pairD))), some (.m (.l (st.reverse.map ndD))), some (.v (trD t)), x4])
    (Q := fun ρ => ∃ x4 : Option SV, ρ = [some (.v (trD t0)), some (.m (.l ((rowsT t0).map pairD))), some (.m (.l [])), some (.v (.tuple [])), x4])
    (fun m ρ ⟨t, st, acc, x4, h1, h2, hρ⟩ => by
      subst hρ
      have hlen : acc.length + (sizT t + sizS st) = sizT t0 := by
        have e := congrArg List.length h1
        have hr : ∀ st : List Nd, (restS st).length = sizS st := fun st => by
          induction st with
          | nil => rfl
          | cons x st ih => simp only [restS, sizS, List.length_append, List.length_cons, len_rowsT, ih]
        simp only [List.length_append, len_rowsT, hr] at e
        exact e
      by_cases c : t = .nil ∧ st = []
      · obtain ⟨rfl, rfl⟩ := c
        simp only [rowsT, restS, List.append_nil] at h1
        exact .inl ⟨[some (.v (trD t0)), some (.m (.l (acc.map pairD))), some (.m (.l [])), some (.v (.tuple [])), x4], by simp only [ro_w, ro_x, ro_y, ro_0, ro_1, ro_2, ro_3, ro_4, ro_5, ro_6, ro_7, ro_8, ro_9, ro_10, ro_11, ro_12, ro_13, ro_14, ro_15, ro_16, ro_17, ro_18, ro_19, ro_20, ro_21, ro_22, ro_23, List.length_map, reduceIte, reduceCtorEq, Bool.false_eq_true, Bool.not_true, Bool.not_false, Bool.true_and, Bool.and_true, Bool.false_and, Bool.and_false, decide_eq_true_eq, decide_true, decide_false, Bool.or_true, Bool.true_or, Bool.or_false, Bool.false_or, Bool.not_eq_true', decide_eq_false_iff_not, not_true_eq_false, not_false_eq_true, and_self, and_true, true_and, or_true, true_or, or_false, false_or, ne_eq, eq_self, Int.ofNat_lt, Int.ofNat_le, Nat.reduceSub, Nat.reduceAdd, Nat.reduceLT, Nat.reduceLeDiff, Nat.reduceEqDiff, Int.reduceLT, Int.reduceLE, Int.reduceAdd, Int.reduceSub, Int.reduceNeg, Int.reduceMul, Int.reducePow, Nat.reducePow, Int.reduceMod, Int.reduceDiv, Int.reduceToNat, Int.reduceEq, Nat.reduceMul, Int.reduceNegSucc, Nat.zero_le, ro_non, trD, List.reverse_nil, Int.lt_irrefl], x4, by rw [h1]⟩
      · have hb : st.length + depT t ≤ 900000 := by
          have := dep_siz (t := t)
          have := len_sizS (st := st)
          omega
        have ei := inner_rows n (some (.v (trD t0))) (some (.m (.l (acc.map pairD)))) x4 t st hb
        have ne : pushL t st ≠ [] := by
          cases t with
          | nil => exact fun e => c ⟨rfl, e⟩
          | nd l k v r => exact push_ne
        obtain ⟨⟨l, k, v, r⟩, st2, hp⟩ : ∃ x st2, pushL t st = x :: st2 := by
          cases hp : pushL t st with
          | nil => exact absurd hp ne
          | cons x st2 => exact ⟨x, st2, rfl⟩
        have r1 := rest_push (t := t) (st := st)
        have s1 := siz_push (t := t) (st := st)
        rw [hp] at ei r1 s1
        simp only [sizS, restS] at s1 r1
        rw [← r1] at h1
        have hgl : (((l, k, v, r) :: st2).reverse.map ndD).getLast? = some (ndD (l, k, v, r)) := by simp
        have hdl : (((l, k, v, r) :: st2).reverse.map ndD).dropLast = st2.reverse.map ndD := by simp
        have sl := slc_to (xs := [PyData.int k, .int v, trD l, trD r]) (k := 2)
        simp only [cast_2, List.take_succ_cons, List.take_zero] at sl
        have q1 : acc.length < lim := by omega
        refine .inr ⟨[some (.v (trD t0)), some (.m (.l (acc.map pairD))), some (.m (.l (st.reverse.map ndD))), some (.v (trD t)), x4], [some (.v (trD t0)), some (.m (.l ((acc ++ [(k, v)]).map pairD))), some (.m (.l (st2.reverse.map ndD))), some (.v (trD r)), some (.v (ndD (l, k, v, r)))], sizT r + sizS st2, ?_, .inl ?_, by omega, r, st2, acc ++ [(k, v)], _, by rw [← h1]; simp, rfl, rfl⟩
        · cases t with
          | nil =>
            have : st ≠ [] := fun e => c ⟨rfl, e⟩
            have pz : (0 : Int) < (st.length : Nat) := by
              cases st with
              | nil => exact absurd rfl this
              | cons x st => simp only [List.length_cons]; omega
            simp only [ro_w, ro_x, ro_y, ro_0, ro_1, ro_2, ro_3, ro_4, ro_5, ro_6, ro_7, ro_8, ro_9, ro_10, ro_11, ro_12, ro_13, ro_14, ro_15, ro_16, ro_17, ro_18, ro_19, ro_20, ro_21, ro_22, ro_23, List.length_map, reduceIte, reduceCtorEq, Bool.false_eq_true, Bool.not_true, Bool.not_false, Bool.true_and, Bool.and_true, Bool.false_and, Bool.and_false, decide_eq_true_eq, decide_true, decide_false, Bool.or_true, Bool.true_or, Bool.or_false, Bool.false_or, Bool.not_eq_true', decide_eq_false_iff_not, not_true_eq_false, not_false_eq_true, and_self, and_true, true_and, or_true, true_or, or_false, false_or, ne_eq, eq_self, Int.ofNat_lt, Int.ofNat_le, Nat.reduceSub, Nat.reduceAdd, Nat.reduceLT, Nat.reduceLeDiff, Nat.reduceEqDiff, Int.reduceLT, Int.reduceLE, Int.reduceAdd, Int.reduceSub, Int.reduceNeg, Int.reduceMul, Int.reducePow, Nat.reducePow, Int.reduceMod, Int.reduceDiv, Int.reduceToNat, Int.reduceEq, Nat.reduceMul, Int.reduceNegSucc, Nat.zero_le, ro_non, trD, Int.lt_irrefl, List.length_reverse, pz]
          | nd l k v r => simp only [ro_w, ro_x, ro_y, ro_0, ro_1, ro_2, ro_3, ro_4, ro_5, ro_6, ro_7, ro_8, ro_9, ro_10, ro_11, ro_12, ro_13, ro_14, ro_15, ro_16, ro_17, ro_18, ro_19, ro_20, ro_21, ro_22, ro_23, List.length_map, reduceIte, reduceCtorEq, Bool.false_eq_true, Bool.not_true, Bool.not_false, Bool.true_and, Bool.and_true, Bool.false_and, Bool.and_false, decide_eq_true_eq, decide_true, decide_false, Bool.or_true, Bool.true_or, Bool.or_false, Bool.false_or, Bool.not_eq_true', decide_eq_false_iff_not, not_true_eq_false, not_false_eq_true, and_self, and_true, true_and, or_true, true_or, or_false, false_or, ne_eq, eq_self, Int.ofNat_lt, Int.ofNat_le, Nat.reduceSub, Nat.reduceAdd, Nat.reduceLT, Nat.reduceLeDiff, Nat.reduceEqDiff, Int.reduceLT, Int.reduceLE, Int.reduceAdd, Int.reduceSub, Int.reduceNeg, Int.reduceMul, Int.reducePow, Nat.reducePow, Int.reduceMod, Int.reduceDiv, Int.reduceToNat, Int.reduceEq, Nat.reduceMul, Int.reduceNegSucc, Nat.zero_le, ro_non, trD]
        · simp only [u_tree_rows_5, u_tree_rows_6, u_tree_rows_7, u_tree_rows_8, ro_w, ro_x, ro_y, ro_0, ro_1, ro_2, ro_3, ro_4, ro_5, ro_6, ro_7, ro_8, ro_9, ro_10, ro_11, ro_12, ro_13, ro_14, ro_15, ro_16, ro_17, ro_18, ro_19, ro_20, ro_21, ro_22, ro_23, List.length_map, reduceIte, reduceCtorEq, Bool.false_eq_true, Bool.not_true, Bool.not_false, Bool.true_and, Bool.and_true, Bool.false_and, Bool.and_false, decide_eq_true_eq, decide_true, decide_false, Bool.or_true, Bool.true_or, Bool.or_false, Bool.false_or, Bool.not_eq_true', decide_eq_false_iff_not, not_true_eq_false, not_false_eq_true, and_self, and_true, true_and, or_true, true_or, or_false, false_or, ne_eq, eq_self, Int.ofNat_lt, Int.ofNat_le, Nat.reduceSub, Nat.reduceAdd, Nat.reduceLT, Nat.reduceLeDiff, Nat.reduceEqDiff, Int.reduceLT, Int.reduceLE, Int.reduceAdd, Int.reduceSub, Int.reduceNeg, Int.reduceMul, Int.reducePow, Nat.reducePow, Int.reduceMod, Int.reduceDiv, Int.reduceToNat, Int.reduceEq, Nat.reduceMul, Int.reduceNegSucc, Nat.zero_le, ro_non, ei, hgl, hdl, ndD_eq, sl, q1, List.map_append, pairD]) fuel (sizT t0) [some (.v (trD t0)), some (.m (.l [])), some (.m (.l [])), some (.v (trD t0)), none]
    ⟨t0, [], [], none, by simp [restS], by simp [sizS], rfl⟩ (by unfold fuel; omega)
  subst hρ
  simp only [f_tree_rows, t_tree_rows, u_tree_rows_0, u_tree_rows_1, u_tree_rows_2, u_tree_rows_3, u_tree_rows_4, ro_w, ro_x, ro_y, ro_0, ro_1, ro_2, ro_3, ro_4, ro_5, ro_6, ro_7, ro_8, ro_9, ro_10, ro_11, ro_12, ro_13, ro_14, ro_15, ro_16, ro_17, ro_18, ro_19, ro_20, ro_21, ro_22, ro_23, List.length_map, reduceIte, reduceCtorEq, Bool.false_eq_true, Bool.not_true, Bool.not_false, Bool.true_and, Bool.and_true, Bool.false_and, Bool.and_false, decide_eq_true_eq, decide_true, decide_false, Bool.or_true, Bool.true_or, Bool.or_false, Bool.false_or, Bool.not_eq_true', decide_eq_false_iff_not, not_true_eq_false, not_false_eq_true, and_self, and_true, true_and, or_true, true_or, or_false, false_or, ne_eq, eq_self, Int.ofNat_lt, Int.ofNat_le, Nat.reduceSub, Nat.reduceAdd, Nat.reduceLT, Nat.reduceLeDiff, Nat.reduceEqDiff, Int.reduceLT, Int.reduceLE, Int.reduceAdd, Int.reduceSub, Int.reduceNeg, Int.reduceMul, Int.reducePow, Nat.reducePow, Int.reduceMod, Int.reduceDiv, Int.reduceToNat, Int.reduceEq, Nat.reduceMul, Int.reduceNegSucc, Nat.zero_le, ro_non, e]
theorem asc_l {l r : Tr} {k v : Int} (hA : Asc (rowsT (.nd l k v r))) : Asc (rowsT l) := (List.pairwise_append.mp hA).1
theorem asc_r {l r : Tr} {k v : Int} (hA : Asc (rowsT (.nd l k v r))) : Asc (rowsT r) := (List.pairwise_cons.mp (List.pairwise_append.mp hA).2.1).2
def wD (p : Nd × Bool) : PyData := .tuple [ndD p.1, .int (if p.2 = true then 2 else 3)]
def plug : List (Nd × Bool) → Tr → Tr
  | [], t => t
  | (x, true) :: w, t => plug w (.nd t x.2.1 x.2.2.1 x.2.2.2)
  | (x, false) :: w, t => plug w (.nd x.1 x.2.1 x.2.2.1 t)
def lowC : List (Nd × Bool) → Tab
  | [] => []
  | (_, true) :: w => lowC w
  | (x, false) :: w => lowC w ++ (rowsT x.1 ++ [(x.2.1, x.2.2.1)])
def highC : List (Nd × Bool) → Tab
  | [] => []
  | (x, true) :: w => (x.2.1, x.2.2.1) :: rowsT x.2.2.2 ++ highC w
  | (_, false) :: w => highC w
theorem rows_plug : ∀ {w : List (Nd × Bool)} {t : Tr}, rowsT (plug w t) = lowC w ++ rowsT t ++ highC w
  | [], t => by simp [plug, lowC, highC]
  | (x, true) :: w, t => by
    rw [plug, rows_plug]
    simp [lowC, highC, rowsT]
  | (x, false) :: w, t => by
    rw [plug, rows_plug]
    simp [lowC, highC, rowsT]
theorem ins_mid {R A M B : Tab} {k v : Int} (hR : R = A ++ M ++ B) (hA : ∀ p ∈ A, p.1 < k) (hB : ∀ p ∈ B, k < p.1) (hM : M = [] ∨ ∃ v0, M = [(k, v0)]) : insR R k v = A ++ (k, v) :: B ∧ dropR R k = A ++ B := by
  have f1 : (A.filter fun p => decide (p.1 < k)) = A := List.filter_eq_self.mpr fun p hp => decide_eq_true (hA p hp)
  have f2 : (B.filter fun p => decide (p.1 < k)) = [] := List.filter_eq_nil_iff.mpr fun p hp => by have := hB p hp; simp; omega
  have f3 : (A.filter fun p => decide (k < p.1)) = [] := List.filter_eq_nil_iff.mpr fun p hp => by have := hA p hp; simp; omega
  have f4 : (B.filter fun p => decide (k < p.1)) = B := List.filter_eq_self.mpr fun p hp => decide_eq_true (hB p hp)
  have f5 : (M.filter fun p => decide (p.1 < k)) = [] := by rcases hM with rfl | ⟨v0, rfl⟩ <;> simp
  have f6 : (M.filter fun p => decide (k < p.1)) = [] := by rcases hM with rfl | ⟨v0, rfl⟩ <;> simp
  have g1 : (A.filter fun p => !decide (p.1 = k)) = A := List.filter_eq_self.mpr fun p hp => by have := hA p hp; simp; omega
  have g2 : (B.filter fun p => !decide (p.1 = k)) = B := List.filter_eq_self.mpr fun p hp => by have := hB p hp; simp; omega
  have g3 : (M.filter fun p => !decide (p.1 = k)) = [] := by rcases hM with rfl | ⟨v0, rfl⟩ <;> simp
  subst hR
  unfold insR dropR dropT
  simp only [List.filter_append, f1, f2, f3, f4, f5, f6, g1, g2, g3, List.append_nil, List.nil_append, and_self]
theorem s_way_to (n : Nat) (h : 1 ≤ n) (t0 : Tr) (hs : sizT t0 ≤ 100000) (hA : Asc (rowsT t0)) (k : Int) : ∃ w t, plug w t = t0 ∧ (∀ p ∈ lowC w, p.1 < k) ∧ (∀ p ∈ highC w, k < p.1) ∧ (t = .nil ∨ ∃ l v r, t = .nd l k v r ∧ (∀ p ∈ rowsT l, p.1 < k) ∧ ∀ p ∈ rowsT r, k < p.1)
    ∧ (w = [] ∨ ∃ p w', w = p :: w' ∧ (if p.2 = true then p.1.1 else p.1.2.2.2) = t) ∧ run T n Fway_to [.v (trD t0), .v (.int k)] = .ok (.mt (.l (w.reverse.map wD)) (trD t), []) := by
  have hz : lim = 16777216 := rfl
  obtain ⟨n, rfl⟩ := ex_add h
  rw [run_way_to]
  obtain ⟨ρ', e, w, t, x4, h1, h2, h3, h4, h5, hρ⟩ := while_inv (c := ev (run T n) (.and (.cmp .gt (.prm .len (.cons (.var 3) .nil)) (.int 0)) (.cmp .ne (.idx (.var 3) (.int 0)) (.var 1)))) (body := evSs (run T n) u_way_to_4)
    (I := fun m ρ => ∃ (w : List (Nd × Bool)) (t : Tr) (x4 : Option SV), plug w t = t0 ∧ (∀ p ∈ lowC w, p.1 < k) ∧ (∀ p ∈ highC w, k < p.1) ∧ m = sizT t ∧ w.length + sizT t ≤ 100000 ∧ Asc (rowsT t) ∧ (w = [] ∨ ∃ p w', w = p :: w' ∧ (if p.2 = true then p.1.1 else p.1.2.2.2) = t) ∧ ρ = [some (.v (trD t0)), some (.v (.int k)), some (.m (.l (w.reverse.map wD))), some (.v (trD t)), x4])
    (Q := fun ρ => ∃ (w : List (Nd × Bool)) (t : Tr) (x4 : Option SV), plug w t = t0 ∧ (∀ p ∈ lowC w, p.1 < k) ∧ (∀ p ∈ highC w, k < p.1) ∧ (t = .nil ∨ ∃ l v r, t = .nd l k v r ∧ (∀ p ∈ rowsT l, p.1 < k) ∧ ∀ p ∈ rowsT r, k < p.1) ∧ (w = [] ∨ ∃ p w', w = p :: w' ∧ (if p.2 = true then p.1.1 else p.1.2.2.2) = t) ∧ ρ = [some (.v (trD t0)), some (.v (.int k)), some (.m (.l (w.reverse.map wD))), some (.v (trD t)), x4])
    (fun m ρ ⟨w, t, x4, a1, a2, a3, a4, a5, a6, a7, hρ⟩ => by
      subst hρ
      cases t with
      | nil => exact .inl ⟨[some (.v (trD t0)), some (.v (.int k)), some (.m (.l (w.reverse.map wD))), some (.v (trD .nil)), x4], by simp only [ro_w, ro_x, ro_y, ro_0, ro_1, ro_2, ro_3, ro_4, ro_5, ro_6, ro_7, ro_8, ro_9, ro_10, ro_11, ro_12, ro_13, ro_14, ro_15, ro_16, ro_17, ro_18, ro_19, ro_20, ro_21, ro_22, ro_23, List.length_map, reduceIte, reduceCtorEq, Bool.false_eq_true, Bool.not_true, Bool.not_false, Bool.true_and, Bool.and_true, Bool.false_and, Bool.and_false, decide_eq_true_eq, decide_true, decide_false, Bool.or_true, Bool.true_or, Bool.or_false, Bool.false_or, Bool.not_eq_true', decide_eq_false_iff_not, not_true_eq_false, not_false_eq_true, and_self, and_true, true_and, or_true, true_or, or_false, false_or, ne_eq, eq_self, Int.ofNat_lt, Int.ofNat_le, Nat.reduceSub, Nat.reduceAdd, Nat.reduceLT, Nat.reduceLeDiff, Nat.reduceEqDiff, Int.reduceLT, Int.reduceLE, Int.reduceAdd, Int.reduceSub, Int.reduceNeg, Int.reduceMul, Int.reducePow, Nat.reducePow, Int.reduceMod, Int.reduceDiv, Int.reduceToNat, Int.reduceEq, Nat.reduceMul, Int.reduceNegSucc, Nat.zero_le, ro_non, trD, Int.lt_irrefl], w, .nil, x4, a1, a2, a3, .inl rfl, a7, rfl⟩
      | nd l j v r =>
        have hh := List.pairwise_append.mp a6
        have hl : ∀ p ∈ rowsT l, p.1 < j := fun p hp => hh.2.2 p hp (j, v) List.mem_cons_self
        have hr : ∀ p ∈ rowsT r, j < p.1 := fun p hp => (List.pairwise_cons.mp hh.2.1).1 p hp
        simp only [sizT] at a4 a5
        have q1 : w.length < lim := by omega
        by_cases c : j = k
        · subst c
          exact .inl ⟨[some (.v (trD t0)), some (.v (.int j)), some (.m (.l (w.reverse.map wD))), some (.v (trD (.nd l j v r))), x4], by simp only [ro_w, ro_x, ro_y, ro_0, ro_1, ro_2, ro_3, ro_4, ro_5, ro_6, ro_7, ro_8, ro_9, ro_10, ro_11, ro_12, ro_13, ro_14, ro_15, ro_16, ro_17, ro_18, ro_19, ro_20, ro_21, ro_22, ro_23, List.length_map, reduceIte, reduceCtorEq, Bool.false_eq_true, Bool.not_true, Bool.not_false, Bool.true_and, Bool.and_true, Bool.false_and, Bool.and_false, decide_eq_true_eq, decide_true, decide_false, Bool.or_true, Bool.true_or, Bool.or_false, Bool.false_or, Bool.not_eq_true', decide_eq_false_iff_not, not_true_eq_false, not_false_eq_true, and_self, and_true, true_and, or_true, true_or, or_false, false_or, ne_eq, eq_self, Int.ofNat_lt, Int.ofNat_le, Nat.reduceSub, Nat.reduceAdd, Nat.reduceLT, Nat.reduceLeDiff, Nat.reduceEqDiff, Int.reduceLT, Int.reduceLE, Int.reduceAdd, Int.reduceSub, Int.reduceNeg, Int.reduceMul, Int.reducePow, Nat.reducePow, Int.reduceMod, Int.reduceDiv, Int.reduceToNat, Int.reduceEq, Nat.reduceMul, Int.reduceNegSucc, Nat.zero_le, ro_non, eq_ii, ne_ii, eq_ss, ne_ss, eq_bb, ne_bb, trD], w, _, x4, a1, a2, a3, .inr ⟨l, v, r, rfl, hl, hr⟩, a7, rfl⟩
        · by_cases d : k < j
          · refine .inr ⟨[some (.v (trD t0)), some (.v (.int k)), some (.m (.l (w.reverse.map wD))), some (.v (trD (.nd l j v r))), x4], [some (.v (trD t0)), some (.v (.int k)), some (.m (.l ((((l, j, v, r), true) :: w).reverse.map wD))), some (.v (trD l)), some (.v (.int 2))], sizT l, by simp only [ro_w, ro_x, ro_y, ro_0, ro_1, ro_2, ro_3, ro_4, ro_5, ro_6, ro_7, ro_8, ro_9, ro_10, ro_11, ro_12, ro_13, ro_14, ro_15, ro_16, ro_17, ro_18, ro_19, ro_20, ro_21, ro_22, ro_23, List.length_map, reduceIte, reduceCtorEq, Bool.false_eq_true, Bool.not_true, Bool.not_false, Bool.true_and, Bool.and_true, Bool.false_and, Bool.and_false, decide_eq_true_eq, decide_true, decide_false, Bool.or_true, Bool.true_or, Bool.or_false, Bool.false_or, Bool.not_eq_true', decide_eq_false_iff_not, not_true_eq_false, not_false_eq_true, and_self, and_true, true_and, or_true, true_or, or_false, false_or, ne_eq, eq_self, Int.ofNat_lt, Int.ofNat_le, Nat.reduceSub, Nat.reduceAdd, Nat.reduceLT, Nat.reduceLeDiff, Nat.reduceEqDiff, Int.reduceLT, Int.reduceLE, Int.reduceAdd, Int.reduceSub, Int.reduceNeg, Int.reduceMul, Int.reducePow, Nat.reducePow, Int.reduceMod, Int.reduceDiv, Int.reduceToNat, Int.reduceEq, Nat.reduceMul, Int.reduceNegSucc, Nat.zero_le, ro_non, eq_ii, ne_ii, eq_ss, ne_ss, eq_bb, ne_bb, trD, c], .inl ?_, by omega, ((l, j, v, r), true) :: w, l, _, a1, a2, fun p hp => ?_, rfl, by simp only [List.length_cons]; omega, asc_l a6, .inr ⟨_, _, rfl, rfl⟩, rfl⟩
            · simp only [u_way_to_4, u_way_to_5, u_way_to_6, ro_w, ro_x, ro_y, ro_0, ro_1, ro_2, ro_3, ro_4, ro_5, ro_6, ro_7, ro_8, ro_9, ro_10, ro_11, ro_12, ro_13, ro_14, ro_15, ro_16, ro_17, ro_18, ro_19, ro_20, ro_21, ro_22, ro_23, List.length_map, reduceIte, reduceCtorEq, Bool.false_eq_true, Bool.not_true, Bool.not_false, Bool.true_and, Bool.and_true, Bool.false_and, Bool.and_false, decide_eq_true_eq, decide_true, decide_false, Bool.or_true, Bool.true_or, Bool.or_false, Bool.false_or, Bool.not_eq_true', decide_eq_false_iff_not, not_true_eq_false, not_false_eq_true, and_self, and_true, true_and, or_true, true_or, or_false, false_or, ne_eq, eq_self, Int.ofNat_lt, Int.ofNat_le, Nat.reduceSub, Nat.reduceAdd, Nat.reduceLT, Nat.reduceLeDiff, Nat.reduceEqDiff, Int.reduceLT, Int.reduceLE, Int.reduceAdd, Int.reduceSub, Int.reduceNeg, Int.reduceMul, Int.reducePow, Nat.reducePow, Int.reduceMod, Int.reduceDiv, Int.reduceToNat, Int.reduceEq, Nat.reduceMul, Int.reduceNegSucc, Nat.zero_le, ro_non, trD, d, q1, List.length_reverse, List.reverse_cons, List.map_append, wD, ndD]
            · simp only [highC, List.mem_cons, List.mem_append] at hp
              rcases hp with (rfl | hp) | hp
              · exact d
              · have := hr p hp; omega
              · exact a3 p hp
          · refine .inr ⟨[some (.v (trD t0)), some (.v (.int k)), some (.m (.l (w.reverse.map wD))), some (.v (trD (.nd l j v r))), x4], [some (.v (trD t0)), some (.v (.int k)), some (.m (.l ((((l, j, v, r), false) :: w).reverse.map wD))), some (.v (trD r)), some (.v (.int 3))], sizT r, by simp only [ro_w, ro_x, ro_y, ro_0, ro_1, ro_2, ro_3, ro_4, ro_5, ro_6, ro_7, ro_8, ro_9, ro_10, ro_11, ro_12, ro_13, ro_14, ro_15, ro_16, ro_17, ro_18, ro_19, ro_20, ro_21, ro_22, ro_23, List.length_map, reduceIte, reduceCtorEq, Bool.false_eq_true, Bool.not_true, Bool.not_false, Bool.true_and, Bool.and_true, Bool.false_and, Bool.and_false, decide_eq_true_eq, decide_true, decide_false, Bool.or_true, Bool.true_or, Bool.or_false, Bool.false_or, Bool.not_eq_true', decide_eq_false_iff_not, not_true_eq_false, not_false_eq_true, and_self, and_true, true_and, or_true, true_or, or_false, false_or, ne_eq, eq_self, Int.ofNat_lt, Int.ofNat_le, Nat.reduceSub, Nat.reduceAdd, Nat.reduceLT, Nat.reduceLeDiff, Nat.reduceEqDiff, Int.reduceLT, Int.reduceLE, Int.reduceAdd, Int.reduceSub, Int.reduceNeg, Int.reduceMul, Int.reducePow, Nat.reducePow, Int.reduceMod, Int.reduceDiv, Int.reduceToNat, Int.reduceEq, Nat.reduceMul, Int.reduceNegSucc, Nat.zero_le, ro_non, eq_ii, ne_ii, eq_ss, ne_ss, eq_bb, ne_bb, trD, c], .inl ?_, by omega, ((l, j, v, r), false) :: w, r, _, a1, fun p hp => ?_, a3, rfl, by simp only [List.length_cons]; omega, asc_r a6, .inr ⟨_, _, rfl, rfl⟩, rfl⟩
            · simp only [u_way_to_4, u_way_to_5, u_way_to_6, ro_w, ro_x, ro_y, ro_0, ro_1, ro_2, ro_3, ro_4, ro_5, ro_6, ro_7, ro_8, ro_9, ro_10, ro_11, ro_12, ro_13, ro_14, ro_15, ro_16, ro_17, ro_18, ro_19, ro_20, ro_21, ro_22, ro_23, List.length_map, reduceIte, reduceCtorEq, Bool.false_eq_true, Bool.not_true, Bool.not_false, Bool.true_and, Bool.and_true, Bool.false_and, Bool.and_false, decide_eq_true_eq, decide_true, decide_false, Bool.or_true, Bool.true_or, Bool.or_false, Bool.false_or, Bool.not_eq_true', decide_eq_false_iff_not, not_true_eq_false, not_false_eq_true, and_self, and_true, true_and, or_true, true_or, or_false, false_or, ne_eq, eq_self, Int.ofNat_lt, Int.ofNat_le, Nat.reduceSub, Nat.reduceAdd, Nat.reduceLT, Nat.reduceLeDiff, Nat.reduceEqDiff, Int.reduceLT, Int.reduceLE, Int.reduceAdd, Int.reduceSub, Int.reduceNeg, Int.reduceMul, Int.reducePow, Nat.reducePow, Int.reduceMod, Int.reduceDiv, Int.reduceToNat, Int.reduceEq, Nat.reduceMul, Int.reduceNegSucc, Nat.zero_le, ro_non, trD, d, q1, List.length_reverse, List.reverse_cons, List.map_append, wD, ndD]
            · simp only [lowC, List.mem_cons, List.mem_append, List.not_mem_nil, or_false] at hp
              rcases hp with hp | hp | rfl
              · exact a2 p hp
              · have := hl p hp; omega
              · show j < k
                omega) fuel (sizT t0) [some (.v (trD t0)), some (.v (.int k)), some (.m (.l [])), some (.v (trD t0)), none] ⟨[], t0, none, rfl, by simp [lowC], by simp [highC], rfl, by simpa using hs, hA, .inl rfl, rfl⟩ (by unfold fuel; omega)
  subst hρ
  refine ⟨w, t, h1, h2, h3, h4, h5, ?_⟩
  simp only [f_way_to, t_way_to, u_way_to_0, u_way_to_1, u_way_to_2, u_way_to_3, ro_w, ro_x, ro_y, ro_0, ro_1, ro_2, ro_3, ro_4, ro_5, ro_6, ro_7, ro_8, ro_9, ro_10, ro_11, ro_12, ro_13, ro_14, ro_15, ro_16, ro_17, ro_18, ro_19, ro_20, ro_21, ro_22, ro_23, List.length_map, reduceIte, reduceCtorEq, Bool.false_eq_true, Bool.not_true, Bool.not_false, Bool.true_and, Bool.and_true, Bool.false_and, Bool.and_false, decide_eq_true_eq, decide_true, decide_false, Bool.or_true, Bool.true_or, Bool.or_false, Bool.false_or, Bool.not_eq_true', decide_eq_false_iff_not, not_true_eq_false, not_false_eq_true, and_self, and_true, true_and, or_true, true_or, or_false, false_or, ne_eq, eq_self, Int.ofNat_lt, Int.ofNat_le, Nat.reduceSub, Nat.reduceAdd, Nat.reduceLT, Nat.reduceLeDiff, Nat.reduceEqDiff, Int.reduceLT, Int.reduceLE, Int.reduceAdd, Int.reduceSub, Int.reduceNeg, Int.reduceMul, Int.reducePow, Nat.reducePow, Int.reduceMod, Int.reduceDiv, Int.reduceToNat, Int.reduceEq, Nat.reduceMul, Int.reduceNegSucc, Nat.zero_le, ro_non, e]
theorem back_loop (n : Nat) (s0 : Option SV) : ∀ (w : List (Nd × Bool)) (t : Tr) (x2 x3 : Option SV), x2.bind SV.mo = none → x3.bind SV.mo = none →
    ∃ y2 y3 : Option SV, forR (bindTg (.t [2, 3])) (evSs (run T n) u_set_back_2) (w.map wD) [s0, some (.v (trD t)), x2, x3] = .ok (.nxt [s0, some (.v (trD (plug w t))), y2, y3]) := by
  have hz : lim = 16777216 := rfl
  intro w
  induction w with
  | nil => exact fun t x2 x3 _ _ => ⟨x2, x3, by simp [forR, plug]⟩
  | cons p w ih =>
    intro t x2 x3 h2 h3
    obtain ⟨⟨l, k, v, r⟩, b⟩ := p
    cases b with
    | true =>
      obtain ⟨y2, y3, e⟩ := ih (.nd t k v r) (some (.v (ndD (l, k, v, r)))) (some (.v (.int 2))) rfl rfl
      refine ⟨y2, y3, ?_⟩
      have b1 : bindTg (.t [2, 3]) (wD ((l, k, v, r), true)) [s0, some (.v (trD t)), x2, x3] = some [s0, some (.v (trD t)), some (.v (ndD (l, k, v, r))), some (.v (.int 2))] := by
        simp only [ro_w, ro_x, ro_y, ro_0, ro_1, ro_2, ro_3, ro_4, ro_5, ro_6, ro_7, ro_8, ro_9, ro_10, ro_11, ro_12, ro_13, ro_14, ro_15, ro_16, ro_17, ro_18, ro_19, ro_20, ro_21, ro_22, ro_23, List.length_map, reduceIte, reduceCtorEq, Bool.false_eq_true, Bool.not_true, Bool.not_false, Bool.true_and, Bool.and_true, Bool.false_and, Bool.and_false, decide_eq_true_eq, decide_true, decide_false, Bool.or_true, Bool.true_or, Bool.or_false, Bool.false_or, Bool.not_eq_true', decide_eq_false_iff_not, not_true_eq_false, not_false_eq_true, and_self, and_true, true_and, or_true, true_or, or_false, false_or, ne_eq, eq_self, Int.ofNat_lt, Int.ofNat_le, Nat.reduceSub, Nat.reduceAdd, Nat.reduceLT, Nat.reduceLeDiff, Nat.reduceEqDiff, Int.reduceLT, Int.reduceLE, Int.reduceAdd, Int.reduceSub, Int.reduceNeg, Int.reduceMul, Int.reducePow, Nat.reducePow, Int.reduceMod, Int.reduceDiv, Int.reduceToNat, Int.reduceEq, Nat.reduceMul, Int.reduceNegSucc, Nat.zero_le, ro_non, wD, h2, h3]
      have st := slc_to (xs := [PyData.int k, .int v, trD l, trD r]) (k := 2)
      have sf := slc_from (xs := [PyData.int k, .int v, trD l, trD r]) (k := 3)
      simp only [cast_2, cast_3, List.take_succ_cons, List.take_zero, List.drop_succ_cons, List.drop_zero] at st sf
      have b2 : evSs (run T n) u_set_back_2 [s0, some (.v (trD t)), some (.v (ndD (l, k, v, r))), some (.v (.int 2))] = .ok (.nxt [s0, some (.v (trD (.nd t k v r))), some (.v (ndD (l, k, v, r))), some (.v (.int 2))]) := by
        simp only [u_set_back_2, ro_w, ro_x, ro_y, ro_0, ro_1, ro_2, ro_3, ro_4, ro_5, ro_6, ro_7, ro_8, ro_9, ro_10, ro_11, ro_12, ro_13, ro_14, ro_15, ro_16, ro_17, ro_18, ro_19, ro_20, ro_21, ro_22, ro_23, List.length_map, reduceIte, reduceCtorEq, Bool.false_eq_true, Bool.not_true, Bool.not_false, Bool.true_and, Bool.and_true, Bool.false_and, Bool.and_false, decide_eq_true_eq, decide_true, decide_false, Bool.or_true, Bool.true_or, Bool.or_false, Bool.false_or, Bool.not_eq_true', decide_eq_false_iff_not, not_true_eq_false, not_false_eq_true, and_self, and_true, true_and, or_true, true_or, or_false, false_or, ne_eq, eq_self, Int.ofNat_lt, Int.ofNat_le, Nat.reduceSub, Nat.reduceAdd, Nat.reduceLT, Nat.reduceLeDiff, Nat.reduceEqDiff, Int.reduceLT, Int.reduceLE, Int.reduceAdd, Int.reduceSub, Int.reduceNeg, Int.reduceMul, Int.reducePow, Nat.reducePow, Int.reduceMod, Int.reduceDiv, Int.reduceToNat, Int.reduceEq, Nat.reduceMul, Int.reduceNegSucc, Nat.zero_le, ro_non, ndD_eq, st, sf, trD]
      simp only [List.map_cons, forR, b1, b2, ofO_some, bnd_ok, plug]
      exact e
    | false =>
      obtain ⟨y2, y3, e⟩ := ih (.nd l k v t) (some (.v (ndD (l, k, v, r)))) (some (.v (.int 3))) rfl rfl
      refine ⟨y2, y3, ?_⟩
      have b1 : bindTg (.t [2, 3]) (wD ((l, k, v, r), false)) [s0, some (.v (trD t)), x2, x3] = some [s0, some (.v (trD t)), some (.v (ndD (l, k, v, r))), some (.v (.int 3))] := by
        simp only [ro_w, ro_x, ro_y, ro_0, ro_1, ro_2, ro_3, ro_4, ro_5, ro_6, ro_7, ro_8, ro_9, ro_10, ro_11, ro_12, ro_13, ro_14, ro_15, ro_16, ro_17, ro_18, ro_19, ro_20, ro_21, ro_22, ro_23, List.length_map, reduceIte, reduceCtorEq, Bool.false_eq_true, Bool.not_true, Bool.not_false, Bool.true_and, Bool.and_true, Bool.false_and, Bool.and_false, decide_eq_true_eq, decide_true, decide_false, Bool.or_true, Bool.true_or, Bool.or_false, Bool.false_or, Bool.not_eq_true', decide_eq_false_iff_not, not_true_eq_false, not_false_eq_true, and_self, and_true, true_and, or_true, true_or, or_false, false_or, ne_eq, eq_self, Int.ofNat_lt, Int.ofNat_le, Nat.reduceSub, Nat.reduceAdd, Nat.reduceLT, Nat.reduceLeDiff, Nat.reduceEqDiff, Int.reduceLT, Int.reduceLE, Int.reduceAdd, Int.reduceSub, Int.reduceNeg, Int.reduceMul, Int.reducePow, Nat.reducePow, Int.reduceMod, Int.reduceDiv, Int.reduceToNat, Int.reduceEq, Nat.reduceMul, Int.reduceNegSucc, Nat.zero_le, ro_non, wD, h2, h3]
      have st := slc_to (xs := [PyData.int k, .int v, trD l, trD r]) (k := 3)
      have sf := slc_from (xs := [PyData.int k, .int v, trD l, trD r]) (k := 4)
      simp only [cast_3, cast_4, List.take_succ_cons, List.take_zero, List.drop_succ_cons, List.drop_zero] at st sf
      have b2 : evSs (run T n) u_set_back_2 [s0, some (.v (trD t)), some (.v (ndD (l, k, v, r))), some (.v (.int 3))] = .ok (.nxt [s0, some (.v (trD (.nd l k v t))), some (.v (ndD (l, k, v, r))), some (.v (.int 3))]) := by
        simp only [u_set_back_2, ro_w, ro_x, ro_y, ro_0, ro_1, ro_2, ro_3, ro_4, ro_5, ro_6, ro_7, ro_8, ro_9, ro_10, ro_11, ro_12, ro_13, ro_14, ro_15, ro_16, ro_17, ro_18, ro_19, ro_20, ro_21, ro_22, ro_23, List.length_map, reduceIte, reduceCtorEq, Bool.false_eq_true, Bool.not_true, Bool.not_false, Bool.true_and, Bool.and_true, Bool.false_and, Bool.and_false, decide_eq_true_eq, decide_true, decide_false, Bool.or_true, Bool.true_or, Bool.or_false, Bool.false_or, Bool.not_eq_true', decide_eq_false_iff_not, not_true_eq_false, not_false_eq_true, and_self, and_true, true_and, or_true, true_or, or_false, false_or, ne_eq, eq_self, Int.ofNat_lt, Int.ofNat_le, Nat.reduceSub, Nat.reduceAdd, Nat.reduceLT, Nat.reduceLeDiff, Nat.reduceEqDiff, Int.reduceLT, Int.reduceLE, Int.reduceAdd, Int.reduceSub, Int.reduceNeg, Int.reduceMul, Int.reducePow, Nat.reducePow, Int.reduceMod, Int.reduceDiv, Int.reduceToNat, Int.reduceEq, Nat.reduceMul, Int.reduceNegSucc, Nat.zero_le, ro_non, ndD_eq, st, sf, trD]
      simp only [List.map_cons, forR, b1, b2, ofO_some, bnd_ok, plug]
      exact e
theorem s_set_back (n : Nat) (h : 1 ≤ n) (w : List (Nd × Bool)) (t : Tr) : run T n Fset_back [.v (.list (w.reverse.map wD)), .v (trD t)] = .ok (.v (trD (plug w t)), []) := by
  obtain ⟨n, rfl⟩ := ex_add h
  rw [run_set_back]
  obtain ⟨y2, y3, e⟩ := back_loop n (some (.v (.list (w.reverse.map wD)))) w t none none rfl rfl
  have hr : (w.reverse.map wD).reverse = w.map wD := by rw [← List.map_reverse, List.reverse_reverse]
  simp only [f_set_back, t_set_back, u_set_back_0, u_set_back_1, ro_w, ro_x, ro_y, ro_0, ro_1, ro_2, ro_3, ro_4, ro_5, ro_6, ro_7, ro_8, ro_9, ro_10, ro_11, ro_12, ro_13, ro_14, ro_15, ro_16, ro_17, ro_18, ro_19, ro_20, ro_21, ro_22, ro_23, List.length_map, reduceIte, reduceCtorEq, Bool.false_eq_true, Bool.not_true, Bool.not_false, Bool.true_and, Bool.and_true, Bool.false_and, Bool.and_false, decide_eq_true_eq, decide_true, decide_false, Bool.or_true, Bool.true_or, Bool.or_false, Bool.false_or, Bool.not_eq_true', decide_eq_false_iff_not, not_true_eq_false, not_false_eq_true, and_self, and_true, true_and, or_true, true_or, or_false, false_or, ne_eq, eq_self, Int.ofNat_lt, Int.ofNat_le, Nat.reduceSub, Nat.reduceAdd, Nat.reduceLT, Nat.reduceLeDiff, Nat.reduceEqDiff, Int.reduceLT, Int.reduceLE, Int.reduceAdd, Int.reduceSub, Int.reduceNeg, Int.reduceMul, Int.reducePow, Nat.reducePow, Int.reduceMod, Int.reduceDiv, Int.reduceToNat, Int.reduceEq, Nat.reduceMul, Int.reduceNegSucc, Nat.zero_le, ro_non, hr, e]
theorem s_set_back_p (n : Nat) (h : 1 ≤ n) (w : List (Nd × Bool)) (t : Tr) : run T n Fset_back [.p (.l (w.reverse.map wD)), .v (trD t)] = .ok (.v (trD (plug w t)), [.l (w.reverse.map wD)]) := by
  obtain ⟨n, rfl⟩ := ex_add h
  rw [run_set_back]
  obtain ⟨y2, y3, e⟩ := back_loop n (some (.p (.l (w.reverse.map wD)))) w t none none rfl rfl
  have hr : (w.reverse.map wD).reverse = w.map wD := by rw [← List.map_reverse, List.reverse_reverse]
  simp only [f_set_back, t_set_back, u_set_back_0, u_set_back_1, ro_w, ro_x, ro_y, ro_0, ro_1, ro_2, ro_3, ro_4, ro_5, ro_6, ro_7, ro_8, ro_9, ro_10, ro_11, ro_12, ro_13, ro_14, ro_15, ro_16, ro_17, ro_18, ro_19, ro_20, ro_21, ro_22, ro_23, List.length_map, reduceIte, reduceCtorEq, Bool.false_eq_true, Bool.not_true, Bool.not_false, Bool.true_and, Bool.and_true, Bool.false_and, Bool.and_false, decide_eq_true_eq, decide_true, decide_false, Bool.or_true, Bool.true_or, Bool.or_false, Bool.false_or, Bool.not_eq_true', decide_eq_false_iff_not, not_true_eq_false, not_false_eq_true, and_self, and_true, true_and, or_true, true_or, or_false, false_or, ne_eq, eq_self, Int.ofNat_lt, Int.ofNat_le, Nat.reduceSub, Nat.reduceAdd, Nat.reduceLT, Nat.reduceLeDiff, Nat.reduceEqDiff, Int.reduceLT, Int.reduceLE, Int.reduceAdd, Int.reduceSub, Int.reduceNeg, Int.reduceMul, Int.reducePow, Nat.reducePow, Int.reduceMod, Int.reduceDiv, Int.reduceToNat, Int.reduceEq, Nat.reduceMul, Int.reduceNegSucc, Nat.zero_le, ro_non, hr, e]
theorem s_knot_of (n : Nat) (h : 1 ≤ n) (l r : Tr) (k v : Int) : run T n Fknot_of [.v (trD l), .v (.tuple [.int k, .int v]), .v (trD r)] = .ok (.v (trD (.nd l k v r)), []) := by
  obtain ⟨n, rfl⟩ := ex_add h
  rw [run_knot_of]
  simp only [f_knot_of, t_knot_of, u_knot_of_0, ro_w, ro_x, ro_y, ro_0, ro_1, ro_2, ro_3, ro_4, ro_5, ro_6, ro_7, ro_8, ro_9, ro_10, ro_11, ro_12, ro_13, ro_14, ro_15, ro_16, ro_17, ro_18, ro_19, ro_20, ro_21, ro_22, ro_23, List.length_map, reduceIte, reduceCtorEq, Bool.false_eq_true, Bool.not_true, Bool.not_false, Bool.true_and, Bool.and_true, Bool.false_and, Bool.and_false, decide_eq_true_eq, decide_true, decide_false, Bool.or_true, Bool.true_or, Bool.or_false, Bool.false_or, Bool.not_eq_true', decide_eq_false_iff_not, not_true_eq_false, not_false_eq_true, and_self, and_true, true_and, or_true, true_or, or_false, false_or, ne_eq, eq_self, Int.ofNat_lt, Int.ofNat_le, Nat.reduceSub, Nat.reduceAdd, Nat.reduceLT, Nat.reduceLeDiff, Nat.reduceEqDiff, Int.reduceLT, Int.reduceLE, Int.reduceAdd, Int.reduceSub, Int.reduceNeg, Int.reduceMul, Int.reducePow, Nat.reducePow, Int.reduceMod, Int.reduceDiv, Int.reduceToNat, Int.reduceEq, Nat.reduceMul, Int.reduceNegSucc, Nat.zero_le, ro_non, trD]
theorem len_trD {t : Tr} : ∃ xs, trD t = .tuple xs ∧ ((xs.length : Int) = 0 ↔ t = .nil) := by
  cases t with
  | nil => exact ⟨[], rfl, by simp⟩
  | nd l k v r => exact ⟨_, rfl, by simp⟩
theorem s_put' (n : Nat) (h : 2 ≤ n) (t0 : Tr) (hs : sizT t0 ≤ 100000) (hA : Asc (rowsT t0)) (k v : Int) : ∃ t, rowsT t = insR (rowsT t0) k v ∧ run T n Fput_plaintrees [.v (trD t0), .v (.int k), .v (.int v)] = .ok (.v (trD t), []) := by
  obtain ⟨n, rfl⟩ := ex_add (show 1 ≤ n by omega)
  rw [run_put_plaintrees]
  obtain ⟨w, t, h1, h2, h3, h4, _, e⟩ := s_way_to n (by omega) t0 hs hA k
  rcases h4 with rfl | ⟨l, v0, r, rfl, hl, hr⟩
  · refine ⟨plug w (.nd .nil k v .nil), ?_, ?_⟩
    · rw [rows_plug, ← h1, rows_plug]
      rw [(ins_mid (v := v) (A := lowC w) (M := []) (B := highC w) (by simp [rowsT]) h2 h3 (.inl rfl)).1]
      simp [rowsT]
    · have ek := s_knot_of n (by omega) .nil .nil k v
      have es := s_set_back_p n (by omega) w (.nd .nil k v .nil)
      simp only [trD] at e ek es
      simp only [f_put_plaintrees, t_put_plaintrees, u_put_plaintrees_0, u_put_plaintrees_1, u_put_plaintrees_2, ro_w, ro_x, ro_y, ro_0, ro_1, ro_2, ro_3, ro_4, ro_5, ro_6, ro_7, ro_8, ro_9, ro_10, ro_11, ro_12, ro_13, ro_14, ro_15, ro_16, ro_17, ro_18, ro_19, ro_20, ro_21, ro_22, ro_23, List.length_map, reduceIte, reduceCtorEq, Bool.false_eq_true, Bool.not_true, Bool.not_false, Bool.true_and, Bool.and_true, Bool.false_and, Bool.and_false, decide_eq_true_eq, decide_true, decide_false, Bool.or_true, Bool.true_or, Bool.or_false, Bool.false_or, Bool.not_eq_true', decide_eq_false_iff_not, not_true_eq_false, not_false_eq_true, and_self, and_true, true_and, or_true, true_or, or_false, false_or, ne_eq, eq_self, Int.ofNat_lt, Int.ofNat_le, Nat.reduceSub, Nat.reduceAdd, Nat.reduceLT, Nat.reduceLeDiff, Nat.reduceEqDiff, Int.reduceLT, Int.reduceLE, Int.reduceAdd, Int.reduceSub, Int.reduceNeg, Int.reduceMul, Int.reducePow, Nat.reducePow, Int.reduceMod, Int.reduceDiv, Int.reduceToNat, Int.reduceEq, Nat.reduceMul, Int.reduceNegSucc, Nat.zero_le, ro_non, e, Int.lt_irrefl, ek, es, trD]
  · refine ⟨plug w (.nd l k v r), ?_, ?_⟩
    · rw [rows_plug, ← h1, rows_plug]
      rw [(ins_mid (v := v) (A := lowC w ++ rowsT l) (M := [(k, v0)]) (B := rowsT r ++ highC w) (by simp [rowsT]) (fun p hp => (List.mem_append.mp hp).elim (h2 p) (hl p)) (fun p hp => (List.mem_append.mp hp).elim (hr p) (h3 p)) (.inr ⟨v0, rfl⟩)).1]
      simp [rowsT]
    · have ek := s_knot_of n (by omega) l r k v
      have es := s_set_back_p n (by omega) w (.nd l k v r)
      simp only [trD] at e ek es
      simp only [f_put_plaintrees, t_put_plaintrees, u_put_plaintrees_0, u_put_plaintrees_1, u_put_plaintrees_2, ro_w, ro_x, ro_y, ro_0, ro_1, ro_2, ro_3, ro_4, ro_5, ro_6, ro_7, ro_8, ro_9, ro_10, ro_11, ro_12, ro_13, ro_14, ro_15, ro_16, ro_17, ro_18, ro_19, ro_20, ro_21, ro_22, ro_23, List.length_map, reduceIte, reduceCtorEq, Bool.false_eq_true, Bool.not_true, Bool.not_false, Bool.true_and, Bool.and_true, Bool.false_and, Bool.and_false, decide_eq_true_eq, decide_true, decide_false, Bool.or_true, Bool.true_or, Bool.or_false, Bool.false_or, Bool.not_eq_true', decide_eq_false_iff_not, not_true_eq_false, not_false_eq_true, and_self, and_true, true_and, or_true, true_or, or_false, false_or, ne_eq, eq_self, Int.ofNat_lt, Int.ofNat_le, Nat.reduceSub, Nat.reduceAdd, Nat.reduceLT, Nat.reduceLeDiff, Nat.reduceEqDiff, Int.reduceLT, Int.reduceLE, Int.reduceAdd, Int.reduceSub, Int.reduceNeg, Int.reduceMul, Int.reducePow, Nat.reducePow, Int.reduceMod, Int.reduceDiv, Int.reduceToNat, Int.reduceEq, Nat.reduceMul, Int.reduceNegSucc, Nat.zero_le, ro_non, e, ek, es, trD]

/-! turned trees: a knot turned up -/
def abT : Tr → Tr → Bool → Tr
  | .nd kl k v kr, .nd _ pk pv pr, true => .nd kl k v (.nd kr pk pv pr)
  | .nd kl k v kr, .nd pl pk pv _, false => .nd (.nd pl pk pv kl) k v kr
  | t, _, _ => t
def ndT (x : Nd) : Tr := .nd x.1 x.2.1 x.2.2.1 x.2.2.2
def stT (t : Tr) (p q : Nd × Bool) : Tr := if p.2 ≠ q.2 then abT (abT t (ndT p.1) p.2) (ndT q.1) q.2 else abT t (abT (ndT p.1) (ndT q.1) p.2) p.2
def upT : List (Nd × Bool) → Tr → Tr
  | [], t => t
  | [p], t => abT t (ndT p.1) p.2
  | p :: q :: w, t => upT w (stT t p q)
theorem ab_nd (kl kr pl pr : Tr) (k v pk pv : Int) (b : Bool) : ∃ l r, abT (.nd kl k v kr) (.nd pl pk pv pr) b = .nd l k v r ∧ (b = false → r = kr) := by
  cases b with
  | true => exact ⟨_, _, rfl, fun h => by cases h⟩
  | false => exact ⟨_, _, rfl, fun _ => rfl⟩
theorem st_nd (kl kr : Tr) (k v : Int) (p q : Nd × Bool) : ∃ l r, stT (.nd kl k v kr) p q = .nd l k v r ∧ (p.2 = false → q.2 = false → r = kr) := by
  obtain ⟨⟨pl, pk, pv, pr⟩, b⟩ := p
  obtain ⟨⟨ql, qk, qv, qr⟩, b2⟩ := q
  cases b <;> cases b2
  · exact ⟨_, _, rfl, fun _ _ => rfl⟩
  · exact ⟨_, _, rfl, fun _ h => by cases h⟩
  · exact ⟨_, _, rfl, fun h _ => by cases h⟩
  · exact ⟨_, _, rfl, fun h _ => by cases h⟩
theorem up_nd : ∀ (w : List (Nd × Bool)) (kl kr : Tr) (k v : Int), ∃ l r, upT w (.nd kl k v kr) = .nd l k v r ∧ ((∀ p ∈ w, p.2 = false) → r = kr)
  | [], kl, kr, k, v => ⟨kl, kr, rfl, fun _ => rfl⟩
  | [p], kl, kr, k, v => by
    obtain ⟨l, r, e, h⟩ := ab_nd kl kr p.1.1 p.1.2.2.2 k v p.1.2.1 p.1.2.2.1 p.2
    exact ⟨l, r, e, fun hp => h (hp p (by simp))⟩
  | p :: q :: w, kl, kr, k, v => by
    obtain ⟨l, r, e, h⟩ := st_nd kl kr k v p q
    obtain ⟨l2, r2, e2, h2⟩ := up_nd w l r k v
    refine ⟨l2, r2, by rw [upT, e, e2], fun hp => ?_⟩
    rw [h2 fun x hx => hp x (by simp [hx]), h (hp p (by simp)) (hp q (by simp))]
theorem rows_ab (kl kr : Tr) (k v : Int) (p : Nd × Bool) : rowsT (abT (.nd kl k v kr) (ndT p.1) p.2) = rowsT (plug [p] (.nd kl k v kr)) := by
  obtain ⟨⟨pl, pk, pv, pr⟩, b⟩ := p
  cases b <;> simp [plug, abT, ndT, rowsT]
theorem rows_st (kl kr : Tr) (k v : Int) (p q : Nd × Bool) : rowsT (stT (.nd kl k v kr) p q) = rowsT (plug [p, q] (.nd kl k v kr)) := by
  obtain ⟨⟨pl, pk, pv, pr⟩, b⟩ := p
  obtain ⟨⟨ql, qk, qv, qr⟩, b2⟩ := q
  cases b <;> cases b2 <;> simp [plug, stT, abT, ndT, rowsT]
theorem plug_app : ∀ (w w2 : List (Nd × Bool)) (t : Tr), plug (w ++ w2) t = plug w2 (plug w t)
  | [], _, _ => rfl
  | (x, true) :: w, w2, t => plug_app w w2 _
  | (x, false) :: w, w2, t => plug_app w w2 _
theorem rows_plug_eq (w : List (Nd × Bool)) {s t : Tr} (h : rowsT s = rowsT t) : rowsT (plug w s) = rowsT (plug w t) := by
  rw [rows_plug, rows_plug, h]
theorem rows_up : ∀ (w : List (Nd × Bool)) (kl kr : Tr) (k v : Int), rowsT (upT w (.nd kl k v kr)) = rowsT (plug w (.nd kl k v kr))
  | [], _, _, _, _ => rfl
  | [p], kl, kr, k, v => rows_ab kl kr k v p
  | p :: q :: w, kl, kr, k, v => by
    obtain ⟨l, r, e, _⟩ := st_nd kl kr k v p q
    rw [upT, e, rows_up w l r k v, ← e, show p :: q :: w = [p, q] ++ w from rfl, plug_app]
    exact rows_plug_eq w (rows_st kl kr k v p q)
def sdI (b : Bool) : Int := if b = true then 2 else 3
theorem wD_eq {p : Nd × Bool} : wD p = .tuple [trD (ndT p.1), .int (sdI p.2)] := rfl
theorem s_above (n : Nat) (h : 1 ≤ n) (kl kr pl pr : Tr) (k v pk pv : Int) (b : Bool) : run T n Fabove [.v (trD (.nd kl k v kr)), .v (trD (.nd pl pk pv pr)), .v (.int (sdI b))] = .ok (.v (trD (abT (.nd kl k v kr) (.nd pl pk pv pr) b)), []) := by
  obtain ⟨n, rfl⟩ := ex_add h
  rw [run_above]
  have hz : lim = 16777216 := rfl
  have a3 := slc_to (xs := [PyData.int k, .int v, trD kl, trD kr]) (k := 3)
  have a2 := slc_to (xs := [PyData.int k, .int v, trD kl, trD kr]) (k := 2)
  have b2 := slc_to (xs := [PyData.int pk, .int pv, trD pl, trD pr]) (k := 2)
  simp only [cast_2, cast_3, List.take_succ_cons, List.take_zero] at a3 a2 b2
  cases b with
  | true => simp only [f_above, t_above, u_above_0, u_above_1, u_above_2, ro_w, ro_x, ro_y, ro_0, ro_1, ro_2, ro_3, ro_4, ro_5, ro_6, ro_7, ro_8, ro_9, ro_10, ro_11, ro_12, ro_13, ro_14, ro_15, ro_16, ro_17, ro_18, ro_19, ro_20, ro_21, ro_22, ro_23, List.length_map, reduceIte, reduceCtorEq, Bool.false_eq_true, Bool.not_true, Bool.not_false, Bool.true_and, Bool.and_true, Bool.false_and, Bool.and_false, decide_eq_true_eq, decide_true, decide_false, Bool.or_true, Bool.true_or, Bool.or_false, Bool.false_or, Bool.not_eq_true', decide_eq_false_iff_not, not_true_eq_false, not_false_eq_true, and_self, and_true, true_and, or_true, true_or, or_false, false_or, ne_eq, eq_self, Int.ofNat_lt, Int.ofNat_le, Nat.reduceSub, Nat.reduceAdd, Nat.reduceLT, Nat.reduceLeDiff, Nat.reduceEqDiff, Int.reduceLT, Int.reduceLE, Int.reduceAdd, Int.reduceSub, Int.reduceNeg, Int.reduceMul, Int.reducePow, Nat.reducePow, Int.reduceMod, Int.reduceDiv, Int.reduceToNat, Int.reduceEq, Nat.reduceMul, Int.reduceNegSucc, Nat.zero_le, ro_non, eq_ii, ne_ii, eq_ss, ne_ss, eq_bb, ne_bb, sdI, trD, abT, a3, b2]
  | false => simp only [f_above, t_above, u_above_0, u_above_1, u_above_2, ro_w, ro_x, ro_y, ro_0, ro_1, ro_2, ro_3, ro_4, ro_5, ro_6, ro_7, ro_8, ro_9, ro_10, ro_11, ro_12, ro_13, ro_14, ro_15, ro_16, ro_17, ro_18, ro_19, ro_20, ro_21, ro_22, ro_23, List.length_map, reduceIte, reduceCtorEq, Bool.false_eq_true, Bool.not_true, Bool.not_false, Bool.true_and, Bool.and_true, Bool.false_and, Bool.and_false, decide_eq_true_eq, decide_true, decide_false, Bool.or_true, Bool.true_or, Bool.or_false, Bool.false_or, Bool.not_eq_true', decide_eq_false_iff_not, not_true_eq_false, not_false_eq_true, and_self, and_true, true_and, or_true, true_or, or_false, false_or, ne_eq, eq_self, Int.ofNat_lt, Int.ofNat_le, Nat.reduceSub, Nat.reduceAdd, Nat.reduceLT, Nat.reduceLeDiff, Nat.reduceEqDiff, Int.reduceLT, Int.reduceLE, Int.reduceAdd, Int.reduceSub, Int.reduceNeg, Int.reduceMul, Int.reducePow, Nat.reducePow, Int.reduceMod, Int.reduceDiv, Int.reduceToNat, Int.reduceEq, Nat.reduceMul, Int.reduceNegSucc, Nat.zero_le, ro_non, eq_ii, ne_ii, eq_ss, ne_ss, eq_bb, ne_bb, sdI, trD, abT, a2, b2]
theorem s_above_two (n : Nat) (h : 2 ≤ n) (kl kr : Tr) (k v : Int) (p q : Nd × Bool) : run T n Fabove_two [.v (trD (.nd kl k v kr)), .v (trD (ndT p.1)), .v (.int (sdI p.2)), .v (trD (ndT q.1)), .v (.int (sdI q.2))] = .ok (.v (trD (stT (.nd kl k v kr) p q)), []) := by
  obtain ⟨n, rfl⟩ := ex_add (show 1 ≤ n by omega)
  rw [run_above_two]
  obtain ⟨⟨pl, pk, pv, pr⟩, b⟩ := p
  obtain ⟨⟨ql, qk, qv, qr⟩, b2⟩ := q
  by_cases hb : b = b2
  · subst hb
    obtain ⟨l, r, e, _⟩ := ab_nd pl pr ql qr pk pv qk qv b
    have e1 := s_above n (by omega) pl pr ql qr pk pv qk qv b
    rw [e] at e1
    have e2 := s_above n (by omega) kl kr l r k v pk pv b
    have e3 : stT (.nd kl k v kr) ((pl, pk, pv, pr), b) ((ql, qk, qv, qr), b) = abT (.nd kl k v kr) (.nd l pk pv r) b := by
      simp only [stT, ndT, e]; simp
    rw [e3]
    simp only [f_above_two, t_above_two, u_above_two_0, u_above_two_1, u_above_two_2, ro_w, ro_x, ro_y, ro_0, ro_1, ro_2, ro_3, ro_4, ro_5, ro_6, ro_7, ro_8, ro_9, ro_10, ro_11, ro_12, ro_13, ro_14, ro_15, ro_16, ro_17, ro_18, ro_19, ro_20, ro_21, ro_22, ro_23, List.length_map, reduceIte, reduceCtorEq, Bool.false_eq_true, Bool.not_true, Bool.not_false, Bool.true_and, Bool.and_true, Bool.false_and, Bool.and_false, decide_eq_true_eq, decide_true, decide_false, Bool.or_true, Bool.true_or, Bool.or_false, Bool.false_or, Bool.not_eq_true', decide_eq_false_iff_not, not_true_eq_false, not_false_eq_true, and_self, and_true, true_and, or_true, true_or, or_false, false_or, ne_eq, eq_self, Int.ofNat_lt, Int.ofNat_le, Nat.reduceSub, Nat.reduceAdd, Nat.reduceLT, Nat.reduceLeDiff, Nat.reduceEqDiff, Int.reduceLT, Int.reduceLE, Int.reduceAdd, Int.reduceSub, Int.reduceNeg, Int.reduceMul, Int.reducePow, Nat.reducePow, Int.reduceMod, Int.reduceDiv, Int.reduceToNat, Int.reduceEq, Nat.reduceMul, Int.reduceNegSucc, Nat.zero_le, ro_non, eq_ii, ne_ii, eq_ss, ne_ss, eq_bb, ne_bb, ndT, e1, e2]
  · obtain ⟨l, r, e, _⟩ := ab_nd kl kr pl pr k v pk pv b
    have e1 := s_above n (by omega) kl kr pl pr k v pk pv b
    rw [e] at e1
    have e2 := s_above n (by omega) l r ql qr k v qk qv b2
    have hs : ¬ sdI b = sdI b2 := by cases b <;> cases b2 <;> simp_all [sdI]
    have e3 : stT (.nd kl k v kr) ((pl, pk, pv, pr), b) ((ql, qk, qv, qr), b2) = abT (.nd l k v r) (.nd ql qk qv qr) b2 := by
      simp only [stT, ndT, e]; simp [hb]
    rw [e3]
    simp only [f_above_two, t_above_two, u_above_two_0, u_above_two_1, u_above_two_2, ro_w, ro_x, ro_y, ro_0, ro_1, ro_2, ro_3, ro_4, ro_5, ro_6, ro_7, ro_8, ro_9, ro_10, ro_11, ro_12, ro_13, ro_14, ro_15, ro_16, ro_17, ro_18, ro_19, ro_20, ro_21, ro_22, ro_23, List.length_map, reduceIte, reduceCtorEq, Bool.false_eq_true, Bool.not_true, Bool.not_false, Bool.true_and, Bool.and_true, Bool.false_and, Bool.and_false, decide_eq_true_eq, decide_true, decide_false, Bool.or_true, Bool.true_or, Bool.or_false, Bool.false_or, Bool.not_eq_true', decide_eq_false_iff_not, not_true_eq_false, not_false_eq_true, and_self, and_true, true_and, or_true, true_or, or_false, false_or, ne_eq, eq_self, Int.ofNat_lt, Int.ofNat_le, Nat.reduceSub, Nat.reduceAdd, Nat.reduceLT, Nat.reduceLeDiff, Nat.reduceEqDiff, Int.reduceLT, Int.reduceLE, Int.reduceAdd, Int.reduceSub, Int.reduceNeg, Int.reduceMul, Int.reducePow, Nat.reducePow, Int.reduceMod, Int.reduceDiv, Int.reduceToNat, Int.reduceEq, Nat.reduceMul, Int.reduceNegSucc, Nat.zero_le, ro_non, eq_ii, ne_ii, eq_ss, ne_ss, eq_bb, ne_bb, ndT, e1, e2, hs]
theorem s_up (n : Nat) (h : 3 ≤ n) (x0 x1 x4 x5 x6 x7 : Option SV) (h4 : x4.bind SV.mo = none) (h5 : x5.bind SV.mo = none) (h6 : x6.bind SV.mo = none) (h7 : x7.bind SV.mo = none) (w : List (Nd × Bool)) (kl kr : Tr) (k v : Int) (hw : w.length ≤ 100000) :
    ∃ ρ', evSs (run T n) u_turned_up_2 [x0, x1, some (.m (.l (w.reverse.map wD))), some (.v (trD (.nd kl k v kr))), x4, x5, x6, x7] = .ok (.ret (.v (trD (upT w (.nd kl k v kr)))) (x0 :: x1 :: ρ')) := by
  have hz : lim = 16777216 := rfl
  obtain ⟨ρ', e, w', kl', kr', y4, y5, y6, y7, hl, hu, hρ⟩ := while_inv (c := ev (run T n) (.cmp .gt (.prm .len (.cons (.var 2) .nil)) (.int 1))) (body := evSs (run T n) u_turned_up_6)
    (I := fun m ρ => ∃ (w' : List (Nd × Bool)) (kl' kr' : Tr) (y4 y5 y6 y7 : Option SV), m = w'.length ∧ w'.length ≤ 100000 ∧ upT w' (.nd kl' k v kr') = upT w (.nd kl k v kr) ∧ y4.bind SV.mo = none ∧ y5.bind SV.mo = none ∧ y6.bind SV.mo = none ∧ y7.bind SV.mo = none ∧ ρ = [x0, x1, some (.m (.l (w'.reverse.map wD))), some (.v (trD (.nd kl' k v kr'))), y4, y5, y6, y7])
    (Q := fun ρ => ∃ (w' : List (Nd × Bool)) (kl' kr' : Tr) (y4 y5 y6 y7 : Option SV), w'.length ≤ 1 ∧ upT w' (.nd kl' k v kr') = upT w (.nd kl k v kr) ∧ ρ = [x0, x1, some (.m (.l (w'.reverse.map wD))), some (.v (trD (.nd kl' k v kr'))), y4, y5, y6, y7])
    (fun m ρ ⟨w', kl', kr', y4, y5, y6, y7, a1, a2, a3, g4, g5, g6, g7, hρ⟩ => by
      subst hρ
      match w', a1, a2, a3 with
      | [], a1, a2, a3 => exact .inl ⟨[x0, x1, some (.m (.l [])), some (.v (trD (.nd kl' k v kr'))), y4, y5, y6, y7], by simp only [ro_w, ro_x, ro_y, ro_0, ro_1, ro_2, ro_3, ro_4, ro_5, ro_6, ro_7, ro_8, ro_9, ro_10, ro_11, ro_12, ro_13, ro_14, ro_15, ro_16, ro_17, ro_18, ro_19, ro_20, ro_21, ro_22, ro_23, List.length_map, reduceIte, reduceCtorEq, Bool.false_eq_true, Bool.not_true, Bool.not_false, Bool.true_and, Bool.and_true, Bool.false_and, Bool.and_false, decide_eq_true_eq, decide_true, decide_false, Bool.or_true, Bool.true_or, Bool.or_false, Bool.false_or, Bool.not_eq_true', decide_eq_false_iff_not, not_true_eq_false, not_false_eq_true, and_self, and_true, true_and, or_true, true_or, or_false, false_or, ne_eq, eq_self, Int.ofNat_lt, Int.ofNat_le, Nat.reduceSub, Nat.reduceAdd, Nat.reduceLT, Nat.reduceLeDiff, Nat.reduceEqDiff, Int.reduceLT, Int.reduceLE, Int.reduceAdd, Int.reduceSub, Int.reduceNeg, Int.reduceMul, Int.reducePow, Nat.reducePow, Int.reduceMod, Int.reduceDiv, Int.reduceToNat, Int.reduceEq, Nat.reduceMul, Int.reduceNegSucc, Nat.zero_le, ro_non, List.reverse_nil, List.map_nil], [], kl', kr', y4, y5, y6, y7, by simp, a3, rfl⟩
      | [p], a1, a2, a3 => exact .inl ⟨[x0, x1, some (.m (.l [wD p])), some (.v (trD (.nd kl' k v kr'))), y4, y5, y6, y7], by simp only [ro_w, ro_x, ro_y, ro_0, ro_1, ro_2, ro_3, ro_4, ro_5, ro_6, ro_7, ro_8, ro_9, ro_10, ro_11, ro_12, ro_13, ro_14, ro_15, ro_16, ro_17, ro_18, ro_19, ro_20, ro_21, ro_22, ro_23, List.length_map, reduceIte, reduceCtorEq, Bool.false_eq_true, Bool.not_true, Bool.not_false, Bool.true_and, Bool.and_true, Bool.false_and, Bool.and_false, decide_eq_true_eq, decide_true, decide_false, Bool.or_true, Bool.true_or, Bool.or_false, Bool.false_or, Bool.not_eq_true', decide_eq_false_iff_not, not_true_eq_false, not_false_eq_true, and_self, and_true, true_and, or_true, true_or, or_false, false_or, ne_eq, eq_self, Int.ofNat_lt, Int.ofNat_le, Nat.reduceSub, Nat.reduceAdd, Nat.reduceLT, Nat.reduceLeDiff, Nat.reduceEqDiff, Int.reduceLT, Int.reduceLE, Int.reduceAdd, Int.reduceSub, Int.reduceNeg, Int.reduceMul, Int.reducePow, Nat.reducePow, Int.reduceMod, Int.reduceDiv, Int.reduceToNat, Int.reduceEq, Nat.reduceMul, Int.reduceNegSucc, Nat.zero_le, ro_non, List.length_reverse, List.reverse_cons, List.reverse_nil, List.map_nil], [p], kl', kr', y4, y5, y6, y7, by simp, a3, rfl⟩
      | p :: q :: w2, a1, a2, a3 =>
        obtain ⟨l, r, e, _⟩ := st_nd kl' kr' k v p q
        have e1 := s_above_two n (by omega) kl' kr' k v p q
        rw [e] at e1
        have hgl : ((p :: q :: w2).reverse.map wD).getLast? = some (wD p) := by simp
        have hdl : ((p :: q :: w2).reverse.map wD).dropLast = (q :: w2).reverse.map wD := by simp
        have hgl2 : ((q :: w2).reverse.map wD).getLast? = some (wD q) := by simp
        have hdl2 : ((q :: w2).reverse.map wD).dropLast = w2.reverse.map wD := by simp
        have hlen : ((p :: q :: w2).reverse.map wD).length = w2.length + 2 := by simp
        have q1 : (1 : Int) < ((w2.length + 2 : Nat) : Int) := by omega
        simp only [List.length_cons] at a1 a2
        rw [upT, e] at a3
        refine .inr ⟨[x0, x1, some (.m (.l ((p :: q :: w2).reverse.map wD))), some (.v (trD (.nd kl' k v kr'))), y4, y5, y6, y7], [x0, x1, some (.m (.l (w2.reverse.map wD))), some (.v (trD (.nd l k v r))), some (.v (trD (ndT p.1))), some (.v (.int (sdI p.2))), some (.v (trD (ndT q.1))), some (.v (.int (sdI q.2)))], w2.length, ?_, .inl ?_, by omega, w2, l, r, _, _, _, _, rfl, by omega, a3, rfl, rfl, rfl, rfl, rfl⟩
        · generalize (p :: q :: w2).reverse.map wD = zs at hlen
          simp only [ro_w, ro_x, ro_y, ro_0, ro_1, ro_2, ro_3, ro_4, ro_5, ro_6, ro_7, ro_8, ro_9, ro_10, ro_11, ro_12, ro_13, ro_14, ro_15, ro_16, ro_17, ro_18, ro_19, ro_20, ro_21, ro_22, ro_23, List.length_map, reduceIte, reduceCtorEq, Bool.false_eq_true, Bool.not_true, Bool.not_false, Bool.true_and, Bool.and_true, Bool.false_and, Bool.and_false, decide_eq_true_eq, decide_true, decide_false, Bool.or_true, Bool.true_or, Bool.or_false, Bool.false_or, Bool.not_eq_true', decide_eq_false_iff_not, not_true_eq_false, not_false_eq_true, and_self, and_true, true_and, or_true, true_or, or_false, false_or, ne_eq, eq_self, Int.ofNat_lt, Int.ofNat_le, Nat.reduceSub, Nat.reduceAdd, Nat.reduceLT, Nat.reduceLeDiff, Nat.reduceEqDiff, Int.reduceLT, Int.reduceLE, Int.reduceAdd, Int.reduceSub, Int.reduceNeg, Int.reduceMul, Int.reducePow, Nat.reducePow, Int.reduceMod, Int.reduceDiv, Int.reduceToNat, Int.reduceEq, Nat.reduceMul, Int.reduceNegSucc, Nat.zero_le, ro_non, hlen, q1]
        · generalize hzs : (p :: q :: w2).reverse.map wD = zs at hgl hdl
          generalize hzs2 : (q :: w2).reverse.map wD = zs2 at hgl2 hdl2 hdl
          simp only [u_turned_up_6, u_turned_up_7, u_turned_up_8, ro_w, ro_x, ro_y, ro_0, ro_1, ro_2, ro_3, ro_4, ro_5, ro_6, ro_7, ro_8, ro_9, ro_10, ro_11, ro_12, ro_13, ro_14, ro_15, ro_16, ro_17, ro_18, ro_19, ro_20, ro_21, ro_22, ro_23, List.length_map, reduceIte, reduceCtorEq, Bool.false_eq_true, Bool.not_true, Bool.not_false, Bool.true_and, Bool.and_true, Bool.false_and, Bool.and_false, decide_eq_true_eq, decide_true, decide_false, Bool.or_true, Bool.true_or, Bool.or_false, Bool.false_or, Bool.not_eq_true', decide_eq_false_iff_not, not_true_eq_false, not_false_eq_true, and_self, and_true, true_and, or_true, true_or, or_false, false_or, ne_eq, eq_self, Int.ofNat_lt, Int.ofNat_le, Nat.reduceSub, Nat.reduceAdd, Nat.reduceLT, Nat.reduceLeDiff, Nat.reduceEqDiff, Int.reduceLT, Int.reduceLE, Int.reduceAdd, Int.reduceSub, Int.reduceNeg, Int.reduceMul, Int.reducePow, Nat.reducePow, Int.reduceMod, Int.reduceDiv, Int.reduceToNat, Int.reduceEq, Nat.reduceMul, Int.reduceNegSucc, Nat.zero_le, ro_non, hgl, hdl, hgl2, hdl2, wD_eq, g4, g5, g6, g7, e1]) fuel w.length [x0, x1, some (.m (.l (w.reverse.map wD))), some (.v (trD (.nd kl k v kr))), x4, x5, x6, x7] ⟨w, kl, kr, x4, x5, x6, x7, rfl, hw, rfl, h4, h5, h6, h7, rfl⟩ (by unfold fuel; omega)
  subst hρ
  rw [← hu]
  match w', hl with
  | [], _ =>
    simp only [List.reverse_nil, List.map_nil] at e
    refine ⟨[some (.m (.l [])), some (.v (trD (.nd kl' k v kr'))), y4, y5, y6, y7], ?_⟩
    simp only [u_turned_up_2, u_turned_up_3, ro_w, ro_x, ro_y, ro_0, ro_1, ro_2, ro_3, ro_4, ro_5, ro_6, ro_7, ro_8, ro_9, ro_10, ro_11, ro_12, ro_13, ro_14, ro_15, ro_16, ro_17, ro_18, ro_19, ro_20, ro_21, ro_22, ro_23, List.length_map, reduceIte, reduceCtorEq, Bool.false_eq_true, Bool.not_true, Bool.not_false, Bool.true_and, Bool.and_true, Bool.false_and, Bool.and_false, decide_eq_true_eq, decide_true, decide_false, Bool.or_true, Bool.true_or, Bool.or_false, Bool.false_or, Bool.not_eq_true', decide_eq_false_iff_not, not_true_eq_false, not_false_eq_true, and_self, and_true, true_and, or_true, true_or, or_false, false_or, ne_eq, eq_self, Int.ofNat_lt, Int.ofNat_le, Nat.reduceSub, Nat.reduceAdd, Nat.reduceLT, Nat.reduceLeDiff, Nat.reduceEqDiff, Int.reduceLT, Int.reduceLE, Int.reduceAdd, Int.reduceSub, Int.reduceNeg, Int.reduceMul, Int.reducePow, Nat.reducePow, Int.reduceMod, Int.reduceDiv, Int.reduceToNat, Int.reduceEq, Nat.reduceMul, Int.reduceNegSucc, Nat.zero_le, ro_non, eq_ii, ne_ii, eq_ss, ne_ss, eq_bb, ne_bb, e, upT]
  | [p], _ =>
    have e1 := s_above n (by omega) kl' kr' p.1.1 p.1.2.2.2 k v p.1.2.1 p.1.2.2.1 p.2
    have hw : ([p].reverse.map wD) = [.tuple [trD (ndT p.1), .int (sdI p.2)]] := rfl
    rw [hw] at e
    have e2 : upT [p] (.nd kl' k v kr') = abT (.nd kl' k v kr') (.nd p.1.1 p.1.2.1 p.1.2.2.1 p.1.2.2.2) p.2 := rfl
    rw [e2]
    refine ⟨[some (.m (.l [.tuple [trD (ndT p.1), .int (sdI p.2)]])), some (.v (trD (.nd kl' k v kr'))), y4, y5, y6, y7], ?_⟩
    simp only [u_turned_up_2, u_turned_up_3, ro_w, ro_x, ro_y, ro_0, ro_1, ro_2, ro_3, ro_4, ro_5, ro_6, ro_7, ro_8, ro_9, ro_10, ro_11, ro_12, ro_13, ro_14, ro_15, ro_16, ro_17, ro_18, ro_19, ro_20, ro_21, ro_22, ro_23, List.length_map, reduceIte, reduceCtorEq, Bool.false_eq_true, Bool.not_true, Bool.not_false, Bool.true_and, Bool.and_true, Bool.false_and, Bool.and_false, decide_eq_true_eq, decide_true, decide_false, Bool.or_true, Bool.true_or, Bool.or_false, Bool.false_or, Bool.not_eq_true', decide_eq_false_iff_not, not_true_eq_false, not_false_eq_true, and_self, and_true, true_and, or_true, true_or, or_false, false_or, ne_eq, eq_self, Int.ofNat_lt, Int.ofNat_le, Nat.reduceSub, Nat.reduceAdd, Nat.reduceLT, Nat.reduceLeDiff, Nat.reduceEqDiff, Int.reduceLT, Int.reduceLE, Int.reduceAdd, Int.reduceSub, Int.reduceNeg, Int.reduceMul, Int.reducePow, Nat.reducePow, Int.reduceMod, Int.reduceDiv, Int.reduceToNat, Int.reduceEq, Nat.reduceMul, Int.reduceNegSucc, Nat.zero_le, ro_non, eq_ii, ne_ii, eq_ss, ne_ss, eq_bb, ne_bb, e, ndT, e1]
  | _ :: _ :: _, hl => simp only [List.length_cons] at hl; omega
theorem plug_len : ∀ (w : List (Nd × Bool)) (t : Tr), w.length + sizT t ≤ sizT (plug w t)
  | [], t => by simp [plug]
  | (x, true) :: w, t => by
    have := plug_len w (.nd t x.2.1 x.2.2.1 x.2.2.2)
    simp only [plug, sizT, List.length_cons] at *; omega
  | (x, false) :: w, t => by
    have := plug_len w (.nd x.1 x.2.1 x.2.2.1 t)
    simp only [plug, sizT, List.length_cons] at *; omega
theorem high_none : ∀ (w : List (Nd × Bool)), highC w = [] → ∀ p ∈ w, p.2 = false
  | [], _, p, hp => absurd hp (by simp)
  | (x, true) :: w, h, p, hp => by simp [highC] at h
  | (x, false) :: w, h, p, hp => by
    rcases List.mem_cons.mp hp with rfl | hp
    · rfl
    · exact high_none w h p hp
theorem high_keys {w : List (Nd × Bool)} {t : Tr} {k : Int} (h3 : ∀ p ∈ highC w, k < p.1) (hk : ∀ p ∈ rowsT (plug w t), p.1 < k) : highC w = [] := by
  rw [rows_plug] at hk
  match hh : highC w with
  | [] => rfl
  | p :: H =>
    have a := h3 p (by rw [hh]; simp)
    have b := hk p (by rw [hh]; simp)
    omega
theorem s_turned (n : Nat) (h : 4 ≤ n) (t0 : Tr) (hs : sizT t0 ≤ 100000) (hA : Asc (rowsT t0)) (k : Int) : ∃ t, rowsT t = rowsT t0 ∧ (∀ v, lookT (rowsT t0) k = some v → ∃ l r, t = .nd l k v r) ∧ (t0 ≠ .nil → (∀ p ∈ rowsT t0, p.1 < k) → ∃ l kk vv, t = .nd l kk vv .nil) ∧ run T n Fturned_up [.v (trD t0), .v (.int k)] = .ok (.v (trD t), []) := by
  obtain ⟨n, rfl⟩ := ex_add (show 1 ≤ n by omega)
  rw [run_turned_up]
  obtain ⟨w, t, h1, h2, h3, h4, h5, e⟩ := s_way_to n (by omega) t0 hs hA k
  have hpl := plug_len w t
  rw [h1] at hpl
  rcases h4 with rfl | ⟨l, v0, r, rfl, hl, hr⟩
  · have hno : lookT (rowsT t0) k = none := look_none.mpr fun hm => by
      obtain ⟨p, hp, rfl⟩ := List.mem_map.mp hm
      rw [← h1, rows_plug] at hp
      simp only [rowsT, List.append_nil, List.mem_append] at hp
      rcases hp with hp | hp
      · have := h2 p hp; omega
      · have := h3 p hp; omega
    rcases h5 with rfl | ⟨p, w', rfl, hc⟩
    · have : t0 = .nil := h1.symm
      subst this
      refine ⟨.nil, rfl, fun v hv => (by rw [hno] at hv; cases hv), fun hn => absurd rfl hn, ?_⟩
      simp only [List.reverse_nil, List.map_nil, trD] at e
      simp only [f_turned_up, t_turned_up, u_turned_up_0, u_turned_up_1, u_turned_up_4, u_turned_up_9, ro_w, ro_x, ro_y, ro_0, ro_1, ro_2, ro_3, ro_4, ro_5, ro_6, ro_7, ro_8, ro_9, ro_10, ro_11, ro_12, ro_13, ro_14, ro_15, ro_16, ro_17, ro_18, ro_19, ro_20, ro_21, ro_22, ro_23, List.length_map, reduceIte, reduceCtorEq, Bool.false_eq_true, Bool.not_true, Bool.not_false, Bool.true_and, Bool.and_true, Bool.false_and, Bool.and_false, decide_eq_true_eq, decide_true, decide_false, Bool.or_true, Bool.true_or, Bool.or_false, Bool.false_or, Bool.not_eq_true', decide_eq_false_iff_not, not_true_eq_false, not_false_eq_true, and_self, and_true, true_and, or_true, true_or, or_false, false_or, ne_eq, eq_self, Int.ofNat_lt, Int.ofNat_le, Nat.reduceSub, Nat.reduceAdd, Nat.reduceLT, Nat.reduceLeDiff, Nat.reduceEqDiff, Int.reduceLT, Int.reduceLE, Int.reduceAdd, Int.reduceSub, Int.reduceNeg, Int.reduceMul, Int.reducePow, Nat.reducePow, Int.reduceMod, Int.reduceDiv, Int.reduceToNat, Int.reduceEq, Nat.reduceMul, Int.reduceNegSucc, Nat.zero_le, ro_non, eq_ii, ne_ii, eq_ss, ne_ss, eq_bb, ne_bb, e, trD]
    · obtain ⟨⟨pl, pk, pv, pr⟩, b⟩ := p
      have hh : plug w' (.nd pl pk pv pr) = t0 := by
        rw [← h1]
        cases b with
        | true => have hc : pl = .nil := hc
                  rw [plug, hc]
        | false => have hc : pr = .nil := hc
                   rw [plug, hc]
      obtain ⟨l2, r2, u1, u2⟩ := up_nd w' pl pr pk pv
      have u3 := rows_up w' pl pr pk pv
      rw [hh] at u3
      obtain ⟨ρe, eu⟩ := s_up n (by omega) (some (.v (trD t0))) (some (.v (.int k))) none none none none rfl rfl rfl rfl w' pl pr pk pv (by simp only [List.length_cons] at hpl; omega)
      refine ⟨upT w' (.nd pl pk pv pr), u3, fun v hv => (by rw [hno] at hv; cases hv), fun _ hk => ?_, ?_⟩
      · have hi := high_keys h3 (h1.symm ▸ hk)
        have hf := high_none _ hi
        have hb : b = false := hf ((pl, pk, pv, pr), b) (by simp)
        subst hb
        have hc : pr = .nil := hc
        rw [hc] at u1 u2
        rw [hc, u1, u2 fun p hp => hf p (by simp [hp])]
        exact ⟨_, _, _, rfl⟩
      · have hgl : ((((pl, pk, pv, pr), b) :: w').reverse.map wD).getLast? = some (wD ((pl, pk, pv, pr), b)) := by simp
        have hdl : ((((pl, pk, pv, pr), b) :: w').reverse.map wD).dropLast = w'.reverse.map wD := by simp
        have hlen : ((((pl, pk, pv, pr), b) :: w').reverse.map wD).length = w'.length + 1 := by simp
        have q1 : ¬ ((w'.length + 1 : Nat) : Int) = 0 := by omega
        generalize (((pl, pk, pv, pr), b) :: w').reverse.map wD = zs at e hgl hdl hlen
        have e' := e
        simp only [trD] at e'
        simp only [f_turned_up, t_turned_up, u_turned_up_0, u_turned_up_1, u_turned_up_4, u_turned_up_5, ro_w, ro_x, ro_y, ro_0, ro_1, ro_2, ro_3, ro_4, ro_5, ro_6, ro_7, ro_8, ro_9, ro_10, ro_11, ro_12, ro_13, ro_14, ro_15, ro_16, ro_17, ro_18, ro_19, ro_20, ro_21, ro_22, ro_23, List.length_map, reduceIte, reduceCtorEq, Bool.false_eq_true, Bool.not_true, Bool.not_false, Bool.true_and, Bool.and_true, Bool.false_and, Bool.and_false, decide_eq_true_eq, decide_true, decide_false, Bool.or_true, Bool.true_or, Bool.or_false, Bool.false_or, Bool.not_eq_true', decide_eq_false_iff_not, not_true_eq_false, not_false_eq_true, and_self, and_true, true_and, or_true, true_or, or_false, false_or, ne_eq, eq_self, Int.ofNat_lt, Int.ofNat_le, Nat.reduceSub, Nat.reduceAdd, Nat.reduceLT, Nat.reduceLeDiff, Nat.reduceEqDiff, Int.reduceLT, Int.reduceLE, Int.reduceAdd, Int.reduceSub, Int.reduceNeg, Int.reduceMul, Int.reducePow, Nat.reducePow, Int.reduceMod, Int.reduceDiv, Int.reduceToNat, Int.reduceEq, Nat.reduceMul, Int.reduceNegSucc, Nat.zero_le, ro_non, eq_ii, ne_ii, eq_ss, ne_ss, eq_bb, ne_bb, e', hlen, q1, hgl, hdl, wD_eq, ndT, eu]
  · obtain ⟨l2, r2, u1, u2⟩ := up_nd w l r k v0
    have u3 := rows_up w l r k v0
    rw [h1] at u3
    have hlook : lookT (rowsT t0) k = some v0 := by
      refine (mem_look (asc_keys hA)).mpr ?_
      rw [← h1, rows_plug]
      simp [rowsT]
    obtain ⟨ρe, eu⟩ := s_up n (by omega) (some (.v (trD t0))) (some (.v (.int k))) none none none none rfl rfl rfl rfl w l r k v0 (by omega)
    refine ⟨upT w (.nd l k v0 r), u3, fun v hv => ?_, fun _ hk => ?_, ?_⟩
    · rw [hlook] at hv
      cases hv
      exact ⟨l2, r2, u1⟩
    · have := hk (k, v0) (by rw [← h1, rows_plug]; simp [rowsT])
      exact absurd this (Int.lt_irrefl _)
    · have e' := e
      simp only [trD] at e' eu
      simp only [f_turned_up, t_turned_up, u_turned_up_0, u_turned_up_1, ro_w, ro_x, ro_y, ro_0, ro_1, ro_2, ro_3, ro_4, ro_5, ro_6, ro_7, ro_8, ro_9, ro_10, ro_11, ro_12, ro_13, ro_14, ro_15, ro_16, ro_17, ro_18, ro_19, ro_20, ro_21, ro_22, ro_23, List.length_map, reduceIte, reduceCtorEq, Bool.false_eq_true, Bool.not_true, Bool.not_false, Bool.true_and, Bool.and_true, Bool.false_and, Bool.and_false, decide_eq_true_eq, decide_true, decide_false, Bool.or_true, Bool.true_or, Bool.or_false, Bool.false_or, Bool.not_eq_true', decide_eq_false_iff_not, not_true_eq_false, not_false_eq_true, and_self, and_true, true_and, or_true, true_or, or_false, false_or, ne_eq, eq_self, Int.ofNat_lt, Int.ofNat_le, Nat.reduceSub, Nat.reduceAdd, Nat.reduceLT, Nat.reduceLeDiff, Nat.reduceEqDiff, Int.reduceLT, Int.reduceLE, Int.reduceAdd, Int.reduceSub, Int.reduceNeg, Int.reduceMul, Int.reducePow, Nat.reducePow, Int.reduceMod, Int.reduceDiv, Int.reduceToNat, Int.reduceEq, Nat.reduceMul, Int.reduceNegSucc, Nat.zero_le, ro_non, eq_ii, ne_ii, eq_ss, ne_ss, eq_bb, ne_bb, e', eu]

def St (s : PyData) (R : Tab) : Prop := ∃ t, s = trD t ∧ rowsT t = R
theorem st_ok {R : Tab} (hR : RowOk R) {t : Tr} (h : rowsT t = R) : okT t ∧ sizT t ≤ 40 ∧ depT t ≤ 40 ∧ Asc (rowsT t) := by
  have h2 := hR.2.1
  rw [← h, len_rowsT] at h2
  have := dep_siz (t := t)
  refine ⟨fun p hp => hR.2.2 p (h ▸ hp), h2, by omega, by rw [h]; exact hR.1⟩
theorem st_empty (n : Nat) (h : 80 ≤ n) : ∃ s, St s [] ∧ run T n Fempty_turntrees [] = .ok (.v s, []) := by
  obtain ⟨n, rfl⟩ := ex_add (show 1 ≤ n by omega)
  refine ⟨.tuple [], ⟨.nil, rfl, rfl⟩, ?_⟩
  rw [run_empty_turntrees]
  simp only [f_empty_turntrees, t_empty_turntrees, u_empty_turntrees_0, ro_w, ro_x, ro_y, ro_0, ro_1, ro_2, ro_3, ro_4, ro_5, ro_6, ro_7, ro_8, ro_9, ro_10, ro_11, ro_12, ro_13, ro_14, ro_15, ro_16, ro_17, ro_18, ro_19, ro_20, ro_21, ro_22, ro_23, List.length_map, reduceIte, reduceCtorEq, Bool.false_eq_true, Bool.not_true, Bool.not_false, Bool.true_and, Bool.and_true, Bool.false_and, Bool.and_false, decide_eq_true_eq, decide_true, decide_false, Bool.or_true, Bool.true_or, Bool.or_false, Bool.false_or, Bool.not_eq_true', decide_eq_false_iff_not, not_true_eq_false, not_false_eq_true, and_self, and_true, true_and, or_true, true_or, or_false, false_or, ne_eq, eq_self, Int.ofNat_lt, Int.ofNat_le, Nat.reduceSub, Nat.reduceAdd, Nat.reduceLT, Nat.reduceLeDiff, Nat.reduceEqDiff, Int.reduceLT, Int.reduceLE, Int.reduceAdd, Int.reduceSub, Int.reduceNeg, Int.reduceMul, Int.reducePow, Nat.reducePow, Int.reduceMod, Int.reduceDiv, Int.reduceToNat, Int.reduceEq, Nat.reduceMul, Int.reduceNegSucc, Nat.zero_le, ro_non]
theorem st_rows (n : Nat) (h : 80 ≤ n) (R : Tab) (hR : RowOk R) (s : PyData) (hs : St s R) : run T n Frows_turntrees [.v s] = .ok (.v (.tuple (R.map pairD)), []) := by
  obtain ⟨t, rfl, hr⟩ := hs
  obtain ⟨o1, o2, o3, o4⟩ := st_ok hR hr
  obtain ⟨n, rfl⟩ := ex_add (show 1 ≤ n by omega)
  have e := s_tree_rows n (by omega) t (by omega)
  rw [hr] at e
  rw [run_rows_turntrees]
  simp only [f_rows_turntrees, t_rows_turntrees, u_rows_turntrees_0, ro_w, ro_x, ro_y, ro_0, ro_1, ro_2, ro_3, ro_4, ro_5, ro_6, ro_7, ro_8, ro_9, ro_10, ro_11, ro_12, ro_13, ro_14, ro_15, ro_16, ro_17, ro_18, ro_19, ro_20, ro_21, ro_22, ro_23, List.length_map, reduceIte, reduceCtorEq, Bool.false_eq_true, Bool.not_true, Bool.not_false, Bool.true_and, Bool.and_true, Bool.false_and, Bool.and_false, decide_eq_true_eq, decide_true, decide_false, Bool.or_true, Bool.true_or, Bool.or_false, Bool.false_or, Bool.not_eq_true', decide_eq_false_iff_not, not_true_eq_false, not_false_eq_true, and_self, and_true, true_and, or_true, true_or, or_false, false_or, ne_eq, eq_self, Int.ofNat_lt, Int.ofNat_le, Nat.reduceSub, Nat.reduceAdd, Nat.reduceLT, Nat.reduceLeDiff, Nat.reduceEqDiff, Int.reduceLT, Int.reduceLE, Int.reduceAdd, Int.reduceSub, Int.reduceNeg, Int.reduceMul, Int.reducePow, Nat.reducePow, Int.reduceMod, Int.reduceDiv, Int.reduceToNat, Int.reduceEq, Nat.reduceMul, Int.reduceNegSucc, Nat.zero_le, ro_non, e]
theorem st_put (n : Nat) (h : 80 ≤ n) (R : Tab) (hR : RowOk R) (s : PyData) (hs : St s R) (k v : Int) (hk : in99 k) (hv : in99 v) (hR2 : RowOk (insR R k v)) : ∃ s', (St s' (insR R k v) ∧ ∃ l r, s' = trD (.nd l k v r)) ∧ run T n Fput_turntrees [.v s, .v (.int k), .v (.int v)] = .ok (.v s', []) := by
  obtain ⟨t, rfl, hr⟩ := hs
  obtain ⟨o1, o2, o3, o4⟩ := st_ok hR hr
  obtain ⟨n, rfl⟩ := ex_add (show 1 ≤ n by omega)
  obtain ⟨t', h1, e⟩ := s_put' n (by omega) t (by omega) o4 k v
  rw [hr] at h1
  obtain ⟨p1, p2, p3, p4⟩ := st_ok hR2 h1
  obtain ⟨t2, g1, g2, _, e2⟩ := s_turned n (by omega) t' (by omega) p4 k
  have hl : lookT (rowsT t') k = some v := by
    rw [h1]
    exact (mem_look (asc_keys hR2.1)).mpr (mem_ins.mpr (.inl rfl))
  obtain ⟨l, r, rfl⟩ := g2 v hl
  refine ⟨_, ⟨⟨_, rfl, by rw [g1, h1]⟩, l, r, rfl⟩, ?_⟩
  rw [run_put_turntrees]
  simp only [f_put_turntrees, t_put_turntrees, u_put_turntrees_0, ro_w, ro_x, ro_y, ro_0, ro_1, ro_2, ro_3, ro_4, ro_5, ro_6, ro_7, ro_8, ro_9, ro_10, ro_11, ro_12, ro_13, ro_14, ro_15, ro_16, ro_17, ro_18, ro_19, ro_20, ro_21, ro_22, ro_23, List.length_map, reduceIte, reduceCtorEq, Bool.false_eq_true, Bool.not_true, Bool.not_false, Bool.true_and, Bool.and_true, Bool.false_and, Bool.and_false, decide_eq_true_eq, decide_true, decide_false, Bool.or_true, Bool.true_or, Bool.or_false, Bool.false_or, Bool.not_eq_true', decide_eq_false_iff_not, not_true_eq_false, not_false_eq_true, and_self, and_true, true_and, or_true, true_or, or_false, false_or, ne_eq, eq_self, Int.ofNat_lt, Int.ofNat_le, Nat.reduceSub, Nat.reduceAdd, Nat.reduceLT, Nat.reduceLeDiff, Nat.reduceEqDiff, Int.reduceLT, Int.reduceLE, Int.reduceAdd, Int.reduceSub, Int.reduceNeg, Int.reduceMul, Int.reducePow, Nat.reducePow, Int.reduceMod, Int.reduceDiv, Int.reduceToNat, Int.reduceEq, Nat.reduceMul, Int.reduceNegSucc, Nat.zero_le, ro_non, e, e2]
theorem s_turn (n : Nat) (h : 80 ≤ n) (R : Tab) (hR : RowOk R) (s : PyData) (hs : St s R) (k : Int) : ∃ s', (St s' R ∧ ∀ v, lookT R k = some v → ∃ l r, s' = trD (.nd l k v r)) ∧ run T n Fturned_up [.v s, .v (.int k)] = .ok (.v s', []) := by
  obtain ⟨t, rfl, hr⟩ := hs
  obtain ⟨o1, o2, o3, o4⟩ := st_ok hR hr
  obtain ⟨t2, g1, g2, _, e2⟩ := s_turned n (by omega) t (by omega) o4 k
  refine ⟨_, ⟨⟨t2, rfl, by rw [g1, hr]⟩, fun v hv => ?_⟩, e2⟩
  obtain ⟨l, r, rfl⟩ := g2 v (by rw [hr]; exact hv)
  exact ⟨l, r, rfl⟩
theorem st_drop (n : Nat) (h : 80 ≤ n) (R : Tab) (hR : RowOk R) (s : PyData) (hs : St s R) (k : Int) (hk : in99 k) (hR2 : RowOk (dropR R k)) : ∃ s', St s' (dropR R k) ∧ run T n Fdrop_turntrees [.v s, .v (.int k)] = .ok (.v s', []) := by
  obtain ⟨t, rfl, hr⟩ := hs
  obtain ⟨o1, o2, o3, o4⟩ := st_ok hR hr
  obtain ⟨n, rfl⟩ := ex_add (show 1 ≤ n by omega)
  obtain ⟨t2, g1, g2, g3, e2⟩ := s_turned n (by omega) t (by omega) o4 k
  rw [hr] at g1 g2
  rw [run_drop_turntrees]
  have hz : lim = 16777216 := rfl
  have notin : lookT R k = none → dropR R k = R := dropR_none
  cases t2 with
  | nil =>
    have hn : R = [] := g1.symm
    refine ⟨_, ⟨.nil, rfl, by rw [hn]; rfl⟩, ?_⟩
    simp only [trD] at e2 ⊢
    simp only [f_drop_turntrees, t_drop_turntrees, u_drop_turntrees_0, u_drop_turntrees_1, u_drop_turntrees_5, ro_w, ro_x, ro_y, ro_0, ro_1, ro_2, ro_3, ro_4, ro_5, ro_6, ro_7, ro_8, ro_9, ro_10, ro_11, ro_12, ro_13, ro_14, ro_15, ro_16, ro_17, ro_18, ro_19, ro_20, ro_21, ro_22, ro_23, List.length_map, reduceIte, reduceCtorEq, Bool.false_eq_true, Bool.not_true, Bool.not_false, Bool.true_and, Bool.and_true, Bool.false_and, Bool.and_false, decide_eq_true_eq, decide_true, decide_false, Bool.or_true, Bool.true_or, Bool.or_false, Bool.false_or, Bool.not_eq_true', decide_eq_false_iff_not, not_true_eq_false, not_false_eq_true, and_self, and_true, true_and, or_true, true_or, or_false, false_or, ne_eq, eq_self, Int.ofNat_lt, Int.ofNat_le, Nat.reduceSub, Nat.reduceAdd, Nat.reduceLT, Nat.reduceLeDiff, Nat.reduceEqDiff, Int.reduceLT, Int.reduceLE, Int.reduceAdd, Int.reduceSub, Int.reduceNeg, Int.reduceMul, Int.reducePow, Nat.reducePow, Int.reduceMod, Int.reduceDiv, Int.reduceToNat, Int.reduceEq, Nat.reduceMul, Int.reduceNegSucc, Nat.zero_le, ro_non, eq_ii, ne_ii, eq_ss, ne_ss, eq_bb, ne_bb, e2]
  | nd l j v r =>
    by_cases c : j = k
    · subst c
      obtain ⟨p1, p2, p3, p4⟩ := st_ok hR g1
      have hh := List.pairwise_append.mp p4
      have hl : ∀ p ∈ rowsT l, p.1 < j := fun p hp => hh.2.2 p hp (j, v) List.mem_cons_self
      have hr' : ∀ p ∈ rowsT r, j < p.1 := fun p hp => (List.pairwise_cons.mp hh.2.1).1 p hp
      have hd : dropR R j = rowsT l ++ rowsT r := (ins_mid (v := v) (A := rowsT l) (M := [(j, v)]) (B := rowsT r) (by rw [← g1]; simp [rowsT]) hl hr' (.inr ⟨v, rfl⟩)).2
      cases l with
      | nil =>
        refine ⟨trD r, ⟨r, rfl, by rw [hd]; simp [rowsT]⟩, ?_⟩
        simp only [trD] at e2
        simp only [f_drop_turntrees, t_drop_turntrees, u_drop_turntrees_0, u_drop_turntrees_1, u_drop_turntrees_2, u_drop_turntrees_6, ro_w, ro_x, ro_y, ro_0, ro_1, ro_2, ro_3, ro_4, ro_5, ro_6, ro_7, ro_8, ro_9, ro_10, ro_11, ro_12, ro_13, ro_14, ro_15, ro_16, ro_17, ro_18, ro_19, ro_20, ro_21, ro_22, ro_23, List.length_map, reduceIte, reduceCtorEq, Bool.false_eq_true, Bool.not_true, Bool.not_false, Bool.true_and, Bool.and_true, Bool.false_and, Bool.and_false, decide_eq_true_eq, decide_true, decide_false, Bool.or_true, Bool.true_or, Bool.or_false, Bool.false_or, Bool.not_eq_true', decide_eq_false_iff_not, not_true_eq_false, not_false_eq_true, and_self, and_true, true_and, or_true, true_or, or_false, false_or, ne_eq, eq_self, Int.ofNat_lt, Int.ofNat_le, Nat.reduceSub, Nat.reduceAdd, Nat.reduceLT, Nat.reduceLeDiff, Nat.reduceEqDiff, Int.reduceLT, Int.reduceLE, Int.reduceAdd, Int.reduceSub, Int.reduceNeg, Int.reduceMul, Int.reducePow, Nat.reducePow, Int.reduceMod, Int.reduceDiv, Int.reduceToNat, Int.reduceEq, Nat.reduceMul, Int.reduceNegSucc, Nat.zero_le, ro_non, eq_ii, ne_ii, eq_ss, ne_ss, eq_bb, ne_bb, e2]
      | nd l1 k1 v1 r1 =>
        simp only [sizT] at p2
        obtain ⟨t5, q1, _, q3, e5⟩ := s_turned n (by omega) (.nd l1 k1 v1 r1) (by simp only [sizT]; omega) (asc_l p4) j
        obtain ⟨l5, k5, v5, rfl⟩ := q3 (by simp) hl
        refine ⟨trD (.nd l5 k5 v5 r), ⟨_, rfl, ?_⟩, ?_⟩
        · rw [hd, ← q1]; simp [rowsT]
        · have sl := slc_to (xs := [PyData.int k5, .int v5, trD l5, .tuple []]) (k := 3)
          simp only [cast_3, List.take_succ_cons, List.take_zero] at sl
          simp only [trD] at e2 e5
          simp only [f_drop_turntrees, t_drop_turntrees, u_drop_turntrees_0, u_drop_turntrees_1, u_drop_turntrees_2, u_drop_turntrees_3, u_drop_turntrees_4, ro_w, ro_x, ro_y, ro_0, ro_1, ro_2, ro_3, ro_4, ro_5, ro_6, ro_7, ro_8, ro_9, ro_10, ro_11, ro_12, ro_13, ro_14, ro_15, ro_16, ro_17, ro_18, ro_19, ro_20, ro_21, ro_22, ro_23, List.length_map, reduceIte, reduceCtorEq, Bool.false_eq_true, Bool.not_true, Bool.not_false, Bool.true_and, Bool.and_true, Bool.false_and, Bool.and_false, decide_eq_true_eq, decide_true, decide_false, Bool.or_true, Bool.true_or, Bool.or_false, Bool.false_or, Bool.not_eq_true', decide_eq_false_iff_not, not_true_eq_false, not_false_eq_true, and_self, and_true, true_and, or_true, true_or, or_false, false_or, ne_eq, eq_self, Int.ofNat_lt, Int.ofNat_le, Nat.reduceSub, Nat.reduceAdd, Nat.reduceLT, Nat.reduceLeDiff, Nat.reduceEqDiff, Int.reduceLT, Int.reduceLE, Int.reduceAdd, Int.reduceSub, Int.reduceNeg, Int.reduceMul, Int.reducePow, Nat.reducePow, Int.reduceMod, Int.reduceDiv, Int.reduceToNat, Int.reduceEq, Nat.reduceMul, Int.reduceNegSucc, Nat.zero_le, ro_non, eq_ii, ne_ii, eq_ss, ne_ss, eq_bb, ne_bb, e2, e5, sl, trD]
    · have hno : lookT R k = none := by
        cases hv : lookT R k with
        | none => rfl
        | some v' =>
          obtain ⟨l', r', e'⟩ := g2 v' hv
          cases e'
          exact absurd rfl c
      refine ⟨_, ⟨.nd l j v r, rfl, by rw [g1, dropR_none hno]⟩, ?_⟩
      simp only [trD] at e2 ⊢
      simp only [f_drop_turntrees, t_drop_turntrees, u_drop_turntrees_0, u_drop_turntrees_1, u_drop_turntrees_5, ro_w, ro_x, ro_y, ro_0, ro_1, ro_2, ro_3, ro_4, ro_5, ro_6, ro_7, ro_8, ro_9, ro_10, ro_11, ro_12, ro_13, ro_14, ro_15, ro_16, ro_17, ro_18, ro_19, ro_20, ro_21, ro_22, ro_23, List.length_map, reduceIte, reduceCtorEq, Bool.false_eq_true, Bool.not_true, Bool.not_false, Bool.true_and, Bool.and_true, Bool.false_and, Bool.and_false, decide_eq_true_eq, decide_true, decide_false, Bool.or_true, Bool.true_or, Bool.or_false, Bool.false_or, Bool.not_eq_true', decide_eq_false_iff_not, not_true_eq_false, not_false_eq_true, and_self, and_true, true_and, or_true, true_or, or_false, false_or, ne_eq, eq_self, Int.ofNat_lt, Int.ofNat_le, Nat.reduceSub, Nat.reduceAdd, Nat.reduceLT, Nat.reduceLeDiff, Nat.reduceEqDiff, Int.reduceLT, Int.reduceLE, Int.reduceAdd, Int.reduceSub, Int.reduceNeg, Int.reduceMul, Int.reducePow, Nat.reducePow, Int.reduceMod, Int.reduceDiv, Int.reduceToNat, Int.reduceEq, Nat.reduceMul, Int.reduceNegSucc, Nat.zero_le, ro_non, eq_ii, ne_ii, eq_ss, ne_ss, eq_bb, ne_bb, e2, c]

namespace Zi
def two (a b : Tab) : PyData := .tuple [.tuple (a.map pairD), .tuple (b.map pairD)]
def St (s : PyData) (R : Tab) : Prop := ∃ a b, R = a ++ b ∧ s = two a b
theorem two_ok {a b : Tab} (h : RowOk (a ++ b)) : (∀ p ∈ a, in99 p.1 ∧ in99 p.2) ∧ (∀ p ∈ b, in99 p.1 ∧ in99 p.2) ∧ a.length + b.length ≤ 40 := by
  refine ⟨fun p hp => h.2.2 p (List.mem_append_left _ hp), fun p hp => h.2.2 p (List.mem_append_right _ hp), ?_⟩
  have := h.2.1
  rwa [List.length_append] at this
theorem atI_last {α : Type} {xs : List α} {x : α} : L2.atI (xs ++ [x]) (-1) = some x := by
  unfold L2.atI L2.ixN
  rw [if_neg (by decide), if_pos (by rw [List.length_append, List.length_singleton]; omega)]
  have e : (-1 + ((xs.length : Int) + 1)).toNat = xs.length := by omega
  simp [e]
theorem slc_last {xs : List PyData} {x : PyData} : slcD (.tuple (xs ++ [x])) (some (-1)) none = some (.v (.tuple [x])) := by
  simp only [slcD, cutG, HT.sIx_none, HT.sIx]
  rw [if_pos (by decide)]
  have e : (-1 + ((xs.length : Int) + 1)).toNat = xs.length := by omega
  simp [e]
theorem s_opened (n : Nat) (h : 1 ≤ n) (a b : Tab) (hA : Asc (a ++ b)) (hl : a.length + b.length ≤ 900000) (k : Int) :
    ∃ l, PosOk (a ++ b) k l ∧ run T n Fopened [.v (two a b), .v (.int k)] = .ok (.v (two ((a ++ b).take l) ((a ++ b).drop l)), []) := by
  have hz : lim = 16777216 := rfl
  obtain ⟨n, rfl⟩ := ex_add h
  rw [run_opened]
  obtain ⟨ρ1, e1, a1, b1, h1, h2, hρ⟩ := while_inv (c := ev (run T n) (.and (.cmp .gt (.prm .len (.cons (.var 2) .nil)) (.int 0)) (.cmp .ge (.idx (.idx (.var 2) (.neg (.int 1))) (.int 0)) (.var 1)))) (body := evSs (run T n) u_opened_4)
    (I := fun m ρ => ∃ (a1 b1 : Tab), a1 ++ b1 = a ++ b ∧ m = a1.length ∧ ρ = [some (.v (two a b)), some (.v (.int k)), some (.v (.tuple (a1.map pairD))), some (.v (.tuple (b1.map pairD)))])
    (Q := fun ρ => ∃ (a1 b1 : Tab), a1 ++ b1 = a ++ b ∧ (∀ p ∈ a1, p.1 < k) ∧ ρ = [some (.v (two a b)), some (.v (.int k)), some (.v (.tuple (a1.map pairD))), some (.v (.tuple (b1.map pairD)))])
    (fun m ρ ⟨a1, b1, g1, g2, hρ⟩ => by
      subst hρ
      have gl : a1.length + b1.length = a.length + b.length := by rw [← List.length_append, g1, List.length_append]
      rcases List.eq_nil_or_concat a1 with rfl | ⟨c, p, rfl⟩
      · exact .inl ⟨_, by simp only [ro_w, ro_x, ro_y, ro_0, ro_1, ro_2, ro_3, ro_4, ro_5, ro_6, ro_7, ro_8, ro_9, ro_10, ro_11, ro_12, ro_13, ro_14, ro_15, ro_16, ro_17, ro_18, ro_19, ro_20, ro_21, ro_22, ro_23, List.length_map, reduceIte, reduceCtorEq, Bool.false_eq_true, Bool.not_true, Bool.not_false, Bool.true_and, Bool.and_true, Bool.false_and, Bool.and_false, decide_eq_true_eq, decide_true, decide_false, Bool.or_true, Bool.true_or, Bool.or_false, Bool.false_or, Bool.not_eq_true', decide_eq_false_iff_not, not_true_eq_false, not_false_eq_true, and_self, and_true, true_and, or_true, true_or, or_false, false_or, ne_eq, eq_self, Int.ofNat_lt, Int.ofNat_le, Nat.reduceSub, Nat.reduceAdd, Nat.reduceLT, Nat.reduceLeDiff, Nat.reduceEqDiff, Int.reduceLT, Int.reduceLE, Int.reduceAdd, Int.reduceSub, Int.reduceNeg, Int.reduceMul, Int.reducePow, Nat.reducePow, Int.reduceMod, Int.reduceDiv, Int.reduceToNat, Int.reduceEq, Nat.reduceMul, Int.reduceNegSucc, Nat.zero_le, ro_non, Int.lt_irrefl], [], b1, g1, by simp, rfl⟩
      · rw [List.concat_eq_append] at g1 g2 gl ⊢
        have lc : (0 : Int) < (((c ++ [p]).map pairD).length : Nat) := by rw [List.length_map, List.length_append, List.length_singleton]; omega
        have ea := atI_last (xs := c.map pairD) (x := pairD p)
        have es := slc_last (xs := c.map pairD) (x := pairD p)
        have ei := slc_init (xs := c.map pairD ++ [pairD p])
        rw [List.dropLast_concat] at ei
        have lc2 : (0 : Int) < ((c.length + 1 : Nat) : Int) := by omega
        by_cases d : k ≤ p.1
        · refine .inr ⟨[some (.v (two a b)), some (.v (.int k)), some (.v (.tuple ((c ++ [p]).map pairD))), some (.v (.tuple (b1.map pairD)))], [some (.v (two a b)), some (.v (.int k)), some (.v (.tuple (c.map pairD))), some (.v (.tuple ((p :: b1).map pairD)))], c.length, ?_, .inl ?_, by rw [List.length_append, List.length_singleton] at g2; omega, c, p :: b1, by rw [← g1]; simp, rfl, rfl⟩
          · simp only [ro_w, ro_x, ro_y, ro_0, ro_1, ro_2, ro_3, ro_4, ro_5, ro_6, ro_7, ro_8, ro_9, ro_10, ro_11, ro_12, ro_13, ro_14, ro_15, ro_16, ro_17, ro_18, ro_19, ro_20, ro_21, ro_22, ro_23, List.length_map, reduceIte, reduceCtorEq, Bool.false_eq_true, Bool.not_true, Bool.not_false, Bool.true_and, Bool.and_true, Bool.false_and, Bool.and_false, decide_eq_true_eq, decide_true, decide_false, Bool.or_true, Bool.true_or, Bool.or_false, Bool.false_or, Bool.not_eq_true', decide_eq_false_iff_not, not_true_eq_false, not_false_eq_true, and_self, and_true, true_and, or_true, true_or, or_false, false_or, ne_eq, eq_self, Int.ofNat_lt, Int.ofNat_le, Nat.reduceSub, Nat.reduceAdd, Nat.reduceLT, Nat.reduceLeDiff, Nat.reduceEqDiff, Int.reduceLT, Int.reduceLE, Int.reduceAdd, Int.reduceSub, Int.reduceNeg, Int.reduceMul, Int.reducePow, Nat.reducePow, Int.reduceMod, Int.reduceDiv, Int.reduceToNat, Int.reduceEq, Nat.reduceMul, Int.reduceNegSucc, Nat.zero_le, ro_non, List.map_append, List.length_append, lc2, ea]
            simp only [ro_w, ro_x, ro_y, ro_0, ro_1, ro_2, ro_3, ro_4, ro_5, ro_6, ro_7, ro_8, ro_9, ro_10, ro_11, ro_12, ro_13, ro_14, ro_15, ro_16, ro_17, ro_18, ro_19, ro_20, ro_21, ro_22, ro_23, List.length_map, reduceIte, reduceCtorEq, Bool.false_eq_true, Bool.not_true, Bool.not_false, Bool.true_and, Bool.and_true, Bool.false_and, Bool.and_false, decide_eq_true_eq, decide_true, decide_false, Bool.or_true, Bool.true_or, Bool.or_false, Bool.false_or, Bool.not_eq_true', decide_eq_false_iff_not, not_true_eq_false, not_false_eq_true, and_self, and_true, true_and, or_true, true_or, or_false, false_or, ne_eq, eq_self, Int.ofNat_lt, Int.ofNat_le, Nat.reduceSub, Nat.reduceAdd, Nat.reduceLT, Nat.reduceLeDiff, Nat.reduceEqDiff, Int.reduceLT, Int.reduceLE, Int.reduceAdd, Int.reduceSub, Int.reduceNeg, Int.reduceMul, Int.reducePow, Nat.reducePow, Int.reduceMod, Int.reduceDiv, Int.reduceToNat, Int.reduceEq, Nat.reduceMul, Int.reduceNegSucc, Nat.zero_le, ro_non, pairD, d]
          · have q1 : 1 + b1.length ≤ lim := by rw [List.length_append, List.length_singleton] at gl; omega
            simp only [u_opened_4, ro_w, ro_x, ro_y, ro_0, ro_1, ro_2, ro_3, ro_4, ro_5, ro_6, ro_7, ro_8, ro_9, ro_10, ro_11, ro_12, ro_13, ro_14, ro_15, ro_16, ro_17, ro_18, ro_19, ro_20, ro_21, ro_22, ro_23, List.length_map, reduceIte, reduceCtorEq, Bool.false_eq_true, Bool.not_true, Bool.not_false, Bool.true_and, Bool.and_true, Bool.false_and, Bool.and_false, decide_eq_true_eq, decide_true, decide_false, Bool.or_true, Bool.true_or, Bool.or_false, Bool.false_or, Bool.not_eq_true', decide_eq_false_iff_not, not_true_eq_false, not_false_eq_true, and_self, and_true, true_and, or_true, true_or, or_false, false_or, ne_eq, eq_self, Int.ofNat_lt, Int.ofNat_le, Nat.reduceSub, Nat.reduceAdd, Nat.reduceLT, Nat.reduceLeDiff, Nat.reduceEqDiff, Int.reduceLT, Int.reduceLE, Int.reduceAdd, Int.reduceSub, Int.reduceNeg, Int.reduceMul, Int.reducePow, Nat.reducePow, Int.reduceMod, Int.reduceDiv, Int.reduceToNat, Int.reduceEq, Nat.reduceMul, Int.reduceNegSucc, Nat.zero_le, ro_non, List.map_append, ei, es, q1]
        · refine .inl ⟨[some (.v (two a b)), some (.v (.int k)), some (.v (.tuple ((c ++ [p]).map pairD))), some (.v (.tuple (b1.map pairD)))], ?_, c ++ [p], b1, g1, fun q hq => ?_, rfl⟩
          · simp only [ro_w, ro_x, ro_y, ro_0, ro_1, ro_2, ro_3, ro_4, ro_5, ro_6, ro_7, ro_8, ro_9, ro_10, ro_11, ro_12, ro_13, ro_14, ro_15, ro_16, ro_17, ro_18, ro_19, ro_20, ro_21, ro_22, ro_23, List.length_map, reduceIte, reduceCtorEq, Bool.false_eq_true, Bool.not_true, Bool.not_false, Bool.true_and, Bool.and_true, Bool.false_and, Bool.and_false, decide_eq_true_eq, decide_true, decide_false, Bool.or_true, Bool.true_or, Bool.or_false, Bool.false_or, Bool.not_eq_true', decide_eq_false_iff_not, not_true_eq_false, not_false_eq_true, and_self, and_true, true_and, or_true, true_or, or_false, false_or, ne_eq, eq_self, Int.ofNat_lt, Int.ofNat_le, Nat.reduceSub, Nat.reduceAdd, Nat.reduceLT, Nat.reduceLeDiff, Nat.reduceEqDiff, Int.reduceLT, Int.reduceLE, Int.reduceAdd, Int.reduceSub, Int.reduceNeg, Int.reduceMul, Int.reducePow, Nat.reducePow, Int.reduceMod, Int.reduceDiv, Int.reduceToNat, Int.reduceEq, Nat.reduceMul, Int.reduceNegSucc, Nat.zero_le, ro_non, List.map_append, List.length_append, lc2, ea]
            simp only [ro_w, ro_x, ro_y, ro_0, ro_1, ro_2, ro_3, ro_4, ro_5, ro_6, ro_7, ro_8, ro_9, ro_10, ro_11, ro_12, ro_13, ro_14, ro_15, ro_16, ro_17, ro_18, ro_19, ro_20, ro_21, ro_22, ro_23, List.length_map, reduceIte, reduceCtorEq, Bool.false_eq_true, Bool.not_true, Bool.not_false, Bool.true_and, Bool.and_true, Bool.false_and, Bool.and_false, decide_eq_true_eq, decide_true, decide_false, Bool.or_true, Bool.true_or, Bool.or_false, Bool.false_or, Bool.not_eq_true', decide_eq_false_iff_not, not_true_eq_false, not_false_eq_true, and_self, and_true, true_and, or_true, true_or, or_false, false_or, ne_eq, eq_self, Int.ofNat_lt, Int.ofNat_le, Nat.reduceSub, Nat.reduceAdd, Nat.reduceLT, Nat.reduceLeDiff, Nat.reduceEqDiff, Int.reduceLT, Int.reduceLE, Int.reduceAdd, Int.reduceSub, Int.reduceNeg, Int.reduceMul, Int.reducePow, Nat.reducePow, Int.reduceMod, Int.reduceDiv, Int.reduceToNat, Int.reduceEq, Nat.reduceMul, Int.reduceNegSucc, Nat.zero_le, ro_non, pairD, d]
          · rw [← g1] at hA
            rcases List.mem_append.mp hq with hq | hq
            · have := (List.pairwise_append.mp (List.pairwise_append.mp hA).1).2.2 q hq p (by simp)
              omega
            · rw [List.mem_singleton.mp hq]; omega) fuel a.length [some (.v (two a b)), some (.v (.int k)), some (.v (.tuple (a.map pairD))), some (.v (.tuple (b.map pairD)))] ⟨a, b, rfl, rfl, rfl⟩ (by unfold fuel; omega)
  subst hρ
  have gl : a1.length + b1.length = a.length + b.length := by rw [← List.length_append, h1, List.length_append]
  obtain ⟨ρ2, e2, a2, b2, h3, h4, h5, hρ⟩ := while_inv (c := ev (run T n) (.and (.cmp .gt (.prm .len (.cons (.var 3) .nil)) (.int 0)) (.cmp .lt (.idx (.idx (.var 3) (.int 0)) (.int 0)) (.var 1)))) (body := evSs (run T n) u_opened_5)
    (I := fun m ρ => ∃ (a1 b1 : Tab), a1 ++ b1 = a ++ b ∧ m = b1.length ∧ (∀ p ∈ a1, p.1 < k) ∧ ρ = [some (.v (two a b)), some (.v (.int k)), some (.v (.tuple (a1.map pairD))), some (.v (.tuple (b1.map pairD)))])
    (Q := fun ρ => ∃ (a1 b1 : Tab), a1 ++ b1 = a ++ b ∧ (∀ p ∈ a1, p.1 < k) ∧ (∀ p ∈ b1, k ≤ p.1) ∧ ρ = [some (.v (two a b)), some (.v (.int k)), some (.v (.tuple (a1.map pairD))), some (.v (.tuple (b1.map pairD)))])
    (fun m ρ ⟨a1, b1, g1, g2, g3, hρ⟩ => by
      subst hρ
      have gl : a1.length + b1.length = a.length + b.length := by rw [← List.length_append, g1, List.length_append]
      cases b1 with
      | nil => exact .inl ⟨_, by simp only [ro_w, ro_x, ro_y, ro_0, ro_1, ro_2, ro_3, ro_4, ro_5, ro_6, ro_7, ro_8, ro_9, ro_10, ro_11, ro_12, ro_13, ro_14, ro_15, ro_16, ro_17, ro_18, ro_19, ro_20, ro_21, ro_22, ro_23, List.length_map, reduceIte, reduceCtorEq, Bool.false_eq_true, Bool.not_true, Bool.not_false, Bool.true_and, Bool.and_true, Bool.false_and, Bool.and_false, decide_eq_true_eq, decide_true, decide_false, Bool.or_true, Bool.true_or, Bool.or_false, Bool.false_or, Bool.not_eq_true', decide_eq_false_iff_not, not_true_eq_false, not_false_eq_true, and_self, and_true, true_and, or_true, true_or, or_false, false_or, ne_eq, eq_self, Int.ofNat_lt, Int.ofNat_le, Nat.reduceSub, Nat.reduceAdd, Nat.reduceLT, Nat.reduceLeDiff, Nat.reduceEqDiff, Int.reduceLT, Int.reduceLE, Int.reduceAdd, Int.reduceSub, Int.reduceNeg, Int.reduceMul, Int.reducePow, Nat.reducePow, Int.reduceMod, Int.reduceDiv, Int.reduceToNat, Int.reduceEq, Nat.reduceMul, Int.reduceNegSucc, Nat.zero_le, ro_non, Int.lt_irrefl], a1, [], g1, g3, by simp, rfl⟩
      | cons p c =>
        have lc2 : (0 : Int) < ((c.length + 1 : Nat) : Int) := by omega
        have es := slc_from (xs := pairD p :: c.map pairD) (k := 1)
        have et := slc_to (xs := pairD p :: c.map pairD) (k := 1)
        simp only [List.drop_succ_cons, List.drop_zero, List.take_succ_cons, List.take_zero, cast_1] at es et
        by_cases d : p.1 < k
        · refine .inr ⟨[some (.v (two a b)), some (.v (.int k)), some (.v (.tuple (a1.map pairD))), some (.v (.tuple ((p :: c).map pairD)))], [some (.v (two a b)), some (.v (.int k)), some (.v (.tuple ((a1 ++ [p]).map pairD))), some (.v (.tuple (c.map pairD)))], c.length, ?_, .inl ?_, by rw [List.length_cons] at g2; omega, a1 ++ [p], c, by rw [← g1]; simp, rfl, fun q hq => ?_, rfl⟩
          · simp only [ro_w, ro_x, ro_y, ro_0, ro_1, ro_2, ro_3, ro_4, ro_5, ro_6, ro_7, ro_8, ro_9, ro_10, ro_11, ro_12, ro_13, ro_14, ro_15, ro_16, ro_17, ro_18, ro_19, ro_20, ro_21, ro_22, ro_23, List.length_map, reduceIte, reduceCtorEq, Bool.false_eq_true, Bool.not_true, Bool.not_false, Bool.true_and, Bool.and_true, Bool.false_and, Bool.and_false, decide_eq_true_eq, decide_true, decide_false, Bool.or_true, Bool.true_or, Bool.or_false, Bool.false_or, Bool.not_eq_true', decide_eq_false_iff_not, not_true_eq_false, not_false_eq_true, and_self, and_true, true_and, or_true, true_or, or_false, false_or, ne_eq, eq_self, Int.ofNat_lt, Int.ofNat_le, Nat.reduceSub, Nat.reduceAdd, Nat.reduceLT, Nat.reduceLeDiff, Nat.reduceEqDiff, Int.reduceLT, Int.reduceLE, Int.reduceAdd, Int.reduceSub, Int.reduceNeg, Int.reduceMul, Int.reducePow, Nat.reducePow, Int.reduceMod, Int.reduceDiv, Int.reduceToNat, Int.reduceEq, Nat.reduceMul, Int.reduceNegSucc, Nat.zero_le, ro_non, lc2, pairD, d]
          · have q1 : a1.length + 1 ≤ lim := by rw [List.length_cons] at gl; omega
            simp only [u_opened_5, ro_w, ro_x, ro_y, ro_0, ro_1, ro_2, ro_3, ro_4, ro_5, ro_6, ro_7, ro_8, ro_9, ro_10, ro_11, ro_12, ro_13, ro_14, ro_15, ro_16, ro_17, ro_18, ro_19, ro_20, ro_21, ro_22, ro_23, List.length_map, reduceIte, reduceCtorEq, Bool.false_eq_true, Bool.not_true, Bool.not_false, Bool.true_and, Bool.and_true, Bool.false_and, Bool.and_false, decide_eq_true_eq, decide_true, decide_false, Bool.or_true, Bool.true_or, Bool.or_false, Bool.false_or, Bool.not_eq_true', decide_eq_false_iff_not, not_true_eq_false, not_false_eq_true, and_self, and_true, true_and, or_true, true_or, or_false, false_or, ne_eq, eq_self, Int.ofNat_lt, Int.ofNat_le, Nat.reduceSub, Nat.reduceAdd, Nat.reduceLT, Nat.reduceLeDiff, Nat.reduceEqDiff, Int.reduceLT, Int.reduceLE, Int.reduceAdd, Int.reduceSub, Int.reduceNeg, Int.reduceMul, Int.reducePow, Nat.reducePow, Int.reduceMod, Int.reduceDiv, Int.reduceToNat, Int.reduceEq, Nat.reduceMul, Int.reduceNegSucc, Nat.zero_le, ro_non, List.map_append, es, et, q1]
          · rcases List.mem_append.mp hq with hq | hq
            · exact g3 q hq
            · rw [List.mem_singleton.mp hq]; exact d
        · refine .inl ⟨_, by simp only [ro_w, ro_x, ro_y, ro_0, ro_1, ro_2, ro_3, ro_4, ro_5, ro_6, ro_7, ro_8, ro_9, ro_10, ro_11, ro_12, ro_13, ro_14, ro_15, ro_16, ro_17, ro_18, ro_19, ro_20, ro_21, ro_22, ro_23, List.length_map, reduceIte, reduceCtorEq, Bool.false_eq_true, Bool.not_true, Bool.not_false, Bool.true_and, Bool.and_true, Bool.false_and, Bool.and_false, decide_eq_true_eq, decide_true, decide_false, Bool.or_true, Bool.true_or, Bool.or_false, Bool.false_or, Bool.not_eq_true', decide_eq_false_iff_not, not_true_eq_false, not_false_eq_true, and_self, and_true, true_and, or_true, true_or, or_false, false_or, ne_eq, eq_self, Int.ofNat_lt, Int.ofNat_le, Nat.reduceSub, Nat.reduceAdd, Nat.reduceLT, Nat.reduceLeDiff, Nat.reduceEqDiff, Int.reduceLT, Int.reduceLE, Int.reduceAdd, Int.reduceSub, Int.reduceNeg, Int.reduceMul, Int.reducePow, Nat.reducePow, Int.reduceMod, Int.reduceDiv, Int.reduceToNat, Int.reduceEq, Nat.reduceMul, Int.reduceNegSucc, Nat.zero_le, ro_non, lc2, pairD, d], a1, p :: c, g1, g3, fun q hq => ?_, rfl⟩
          rw [← g1] at hA
          rcases List.mem_cons.mp hq with rfl | hq
          · omega
          · have := (List.pairwise_cons.mp (List.pairwise_append.mp hA).2.1).1 q hq
            omega) fuel b1.length [some (.v (two a b)), some (.v (.int k)), some (.v (.tuple (a1.map pairD))), some (.v (.tuple (b1.map pairD)))] ⟨a1, b1, h1, rfl, h2, rfl⟩ (by unfold fuel; omega)
  subst hρ
  have tk : (a ++ b).take a2.length = a2 := by rw [← h3, List.take_left]
  have dr : (a ++ b).drop a2.length = b2 := by rw [← h3, List.drop_left]
  refine ⟨a2.length, ⟨by rw [← h3, List.length_append]; omega, ?_, ?_⟩, ?_⟩
  · exact (split_pos (by rw [tk]; exact h4) (by rw [dr]; exact h5)).1
  · exact (split_pos (by rw [tk]; exact h4) (by rw [dr]; exact h5)).2
  · rw [tk, dr]
    have en := e1
    unfold two at e1 e2 ⊢
    simp only [f_opened, t_opened, u_opened_0, u_opened_1, u_opened_2, u_opened_3, ro_w, ro_x, ro_y, ro_0, ro_1, ro_2, ro_3, ro_4, ro_5, ro_6, ro_7, ro_8, ro_9, ro_10, ro_11, ro_12, ro_13, ro_14, ro_15, ro_16, ro_17, ro_18, ro_19, ro_20, ro_21, ro_22, ro_23, List.length_map, reduceIte, reduceCtorEq, Bool.false_eq_true, Bool.not_true, Bool.not_false, Bool.true_and, Bool.and_true, Bool.false_and, Bool.and_false, decide_eq_true_eq, decide_true, decide_false, Bool.or_true, Bool.true_or, Bool.or_false, Bool.false_or, Bool.not_eq_true', decide_eq_false_iff_not, not_true_eq_false, not_false_eq_true, and_self, and_true, true_and, or_true, true_or, or_false, false_or, ne_eq, eq_self, Int.ofNat_lt, Int.ofNat_le, Nat.reduceSub, Nat.reduceAdd, Nat.reduceLT, Nat.reduceLeDiff, Nat.reduceEqDiff, Int.reduceLT, Int.reduceLE, Int.reduceAdd, Int.reduceSub, Int.reduceNeg, Int.reduceMul, Int.reducePow, Nat.reducePow, Int.reduceMod, Int.reduceDiv, Int.reduceToNat, Int.reduceEq, Nat.reduceMul, Int.reduceNegSucc, Nat.zero_le, ro_non, e1, e2]
theorem s_has_key (n : Nat) (h : 1 ≤ n) (R : Tab) (hA : Asc R) (k : Int) (l : Nat) (hp : PosOk R k l) (a : Tab) : run T n Fhas_key [.v (two a (R.drop l)), .v (.int k)] = .ok (.v (.bool (hasR R k)), []) := by
  obtain ⟨n, rfl⟩ := ex_add h
  rw [run_has_key]
  have hh := pos_has hA hp
  by_cases hl : l < R.length
  · have hd : R.drop l = R[l] :: R.drop (l + 1) := List.drop_eq_getElem_cons hl
    have lc2 : (0 : Int) < (((R.drop (l + 1)).length + 1 : Nat) : Int) := by omega
    rw [hd]
    unfold two
    by_cases c : R[l].1 = k
    · have e := hh.mp ⟨hl, c⟩
      simp only [f_has_key, t_has_key, u_has_key_0, ro_w, ro_x, ro_y, ro_0, ro_1, ro_2, ro_3, ro_4, ro_5, ro_6, ro_7, ro_8, ro_9, ro_10, ro_11, ro_12, ro_13, ro_14, ro_15, ro_16, ro_17, ro_18, ro_19, ro_20, ro_21, ro_22, ro_23, List.length_map, reduceIte, reduceCtorEq, Bool.false_eq_true, Bool.not_true, Bool.not_false, Bool.true_and, Bool.and_true, Bool.false_and, Bool.and_false, decide_eq_true_eq, decide_true, decide_false, Bool.or_true, Bool.true_or, Bool.or_false, Bool.false_or, Bool.not_eq_true', decide_eq_false_iff_not, not_true_eq_false, not_false_eq_true, and_self, and_true, true_and, or_true, true_or, or_false, false_or, ne_eq, eq_self, Int.ofNat_lt, Int.ofNat_le, Nat.reduceSub, Nat.reduceAdd, Nat.reduceLT, Nat.reduceLeDiff, Nat.reduceEqDiff, Int.reduceLT, Int.reduceLE, Int.reduceAdd, Int.reduceSub, Int.reduceNeg, Int.reduceMul, Int.reducePow, Nat.reducePow, Int.reduceMod, Int.reduceDiv, Int.reduceToNat, Int.reduceEq, Nat.reduceMul, Int.reduceNegSucc, Nat.zero_le, ro_non, eq_ii, ne_ii, eq_ss, ne_ss, eq_bb, ne_bb, pairD, lc2, c, e]
    · have e : hasR R k = false := by
        rw [← Bool.not_eq_true]
        exact fun h => c (hh.mpr h).2
      simp only [f_has_key, t_has_key, u_has_key_0, ro_w, ro_x, ro_y, ro_0, ro_1, ro_2, ro_3, ro_4, ro_5, ro_6, ro_7, ro_8, ro_9, ro_10, ro_11, ro_12, ro_13, ro_14, ro_15, ro_16, ro_17, ro_18, ro_19, ro_20, ro_21, ro_22, ro_23, List.length_map, reduceIte, reduceCtorEq, Bool.false_eq_true, Bool.not_true, Bool.not_false, Bool.true_and, Bool.and_true, Bool.false_and, Bool.and_false, decide_eq_true_eq, decide_true, decide_false, Bool.or_true, Bool.true_or, Bool.or_false, Bool.false_or, Bool.not_eq_true', decide_eq_false_iff_not, not_true_eq_false, not_false_eq_true, and_self, and_true, true_and, or_true, true_or, or_false, false_or, ne_eq, eq_self, Int.ofNat_lt, Int.ofNat_le, Nat.reduceSub, Nat.reduceAdd, Nat.reduceLT, Nat.reduceLeDiff, Nat.reduceEqDiff, Int.reduceLT, Int.reduceLE, Int.reduceAdd, Int.reduceSub, Int.reduceNeg, Int.reduceMul, Int.reducePow, Nat.reducePow, Int.reduceMod, Int.reduceDiv, Int.reduceToNat, Int.reduceEq, Nat.reduceMul, Int.reduceNegSucc, Nat.zero_le, ro_non, eq_ii, ne_ii, eq_ss, ne_ss, eq_bb, ne_bb, pairD, lc2, c, e]
  · have hd : R.drop l = [] := List.drop_eq_nil_of_le (by omega)
    have e : hasR R k = false := by
      rw [← Bool.not_eq_true]
      exact fun h => hl (hh.mpr h).1
    rw [hd]
    unfold two
    simp only [f_has_key, t_has_key, u_has_key_0, ro_w, ro_x, ro_y, ro_0, ro_1, ro_2, ro_3, ro_4, ro_5, ro_6, ro_7, ro_8, ro_9, ro_10, ro_11, ro_12, ro_13, ro_14, ro_15, ro_16, ro_17, ro_18, ro_19, ro_20, ro_21, ro_22, ro_23, List.length_map, reduceIte, reduceCtorEq, Bool.false_eq_true, Bool.not_true, Bool.not_false, Bool.true_and, Bool.and_true, Bool.false_and, Bool.and_false, decide_eq_true_eq, decide_true, decide_false, Bool.or_true, Bool.true_or, Bool.or_false, Bool.false_or, Bool.not_eq_true', decide_eq_false_iff_not, not_true_eq_false, not_false_eq_true, and_self, and_true, true_and, or_true, true_or, or_false, false_or, ne_eq, eq_self, Int.ofNat_lt, Int.ofNat_le, Nat.reduceSub, Nat.reduceAdd, Nat.reduceLT, Nat.reduceLeDiff, Nat.reduceEqDiff, Int.reduceLT, Int.reduceLE, Int.reduceAdd, Int.reduceSub, Int.reduceNeg, Int.reduceMul, Int.reducePow, Nat.reducePow, Int.reduceMod, Int.reduceDiv, Int.reduceToNat, Int.reduceEq, Nat.reduceMul, Int.reduceNegSucc, Nat.zero_le, ro_non, Int.lt_irrefl, e]
theorem st_put (n : Nat) (h : 6 ≤ n) (R : Tab) (hR : RowOk R) (s : PyData) (hs : St s R) (k v : Int) (hk : in99 k) (hv : in99 v) (hR2 : RowOk (insR R k v)) : ∃ A B, insR R k v = A ++ (k, v) :: B ∧ run T n Fput_zippers [.v s, .v (.int k), .v (.int v)] = .ok (.v (two A ((k, v) :: B)), []) := by
  obtain ⟨a, b, rfl, rfl⟩ := hs
  obtain ⟨_, _, h3⟩ := two_ok hR
  have hz : lim = 16777216 := rfl
  obtain ⟨n, rfl⟩ := ex_add (show 1 ≤ n by omega)
  rw [run_put_zippers]
  obtain ⟨l, hp, e⟩ := s_opened n (by omega) a b hR.1 (by omega) k
  have e2 := s_has_key n (by omega) (a ++ b) hR.1 k l hp ((a ++ b).take l)
  have pi := pos_ins (v := v) hR.1 hp
  refine ⟨(a ++ b).take l, (a ++ b).drop (l + if hasR (a ++ b) k = true then 1 else 0), by rw [← pi, List.append_assoc]; rfl, ?_⟩
  have ll : (a ++ b).length ≤ 40 := hR.2.1
  cases hh : hasR (a ++ b) k with
  | true =>
    rw [hh] at e2
    rw [if_pos rfl]
    have s1 := slc_from (xs := ((a ++ b).drop l).map pairD) (k := 1)
    rw [← List.map_drop, List.drop_drop, cast_1] at s1
    have q1 : 1 + ((a ++ b).drop (l + 1)).length ≤ lim := by rw [List.length_drop]; omega
    unfold two at e e2 ⊢
    simp only [f_put_zippers, t_put_zippers, u_put_zippers_0, u_put_zippers_1, ro_w, ro_x, ro_y, ro_0, ro_1, ro_2, ro_3, ro_4, ro_5, ro_6, ro_7, ro_8, ro_9, ro_10, ro_11, ro_12, ro_13, ro_14, ro_15, ro_16, ro_17, ro_18, ro_19, ro_20, ro_21, ro_22, ro_23, List.length_map, reduceIte, reduceCtorEq, Bool.false_eq_true, Bool.not_true, Bool.not_false, Bool.true_and, Bool.and_true, Bool.false_and, Bool.and_false, decide_eq_true_eq, decide_true, decide_false, Bool.or_true, Bool.true_or, Bool.or_false, Bool.false_or, Bool.not_eq_true', decide_eq_false_iff_not, not_true_eq_false, not_false_eq_true, and_self, and_true, true_and, or_true, true_or, or_false, false_or, ne_eq, eq_self, Int.ofNat_lt, Int.ofNat_le, Nat.reduceSub, Nat.reduceAdd, Nat.reduceLT, Nat.reduceLeDiff, Nat.reduceEqDiff, Int.reduceLT, Int.reduceLE, Int.reduceAdd, Int.reduceSub, Int.reduceNeg, Int.reduceMul, Int.reducePow, Nat.reducePow, Int.reduceMod, Int.reduceDiv, Int.reduceToNat, Int.reduceEq, Nat.reduceMul, Int.reduceNegSucc, Nat.zero_le, ro_non, e, e2, s1, q1, pairD]
  | false =>
    rw [hh] at e2
    rw [if_neg (by decide), Nat.add_zero]
    have q1 : 1 + ((a ++ b).drop l).length ≤ lim := by rw [List.length_drop]; omega
    unfold two at e e2 ⊢
    simp only [f_put_zippers, t_put_zippers, u_put_zippers_0, u_put_zippers_1, ro_w, ro_x, ro_y, ro_0, ro_1, ro_2, ro_3, ro_4, ro_5, ro_6, ro_7, ro_8, ro_9, ro_10, ro_11, ro_12, ro_13, ro_14, ro_15, ro_16, ro_17, ro_18, ro_19, ro_20, ro_21, ro_22, ro_23, List.length_map, reduceIte, reduceCtorEq, Bool.false_eq_true, Bool.not_true, Bool.not_false, Bool.true_and, Bool.and_true, Bool.false_and, Bool.and_false, decide_eq_true_eq, decide_true, decide_false, Bool.or_true, Bool.true_or, Bool.or_false, Bool.false_or, Bool.not_eq_true', decide_eq_false_iff_not, not_true_eq_false, not_false_eq_true, and_self, and_true, true_and, or_true, true_or, or_false, false_or, ne_eq, eq_self, Int.ofNat_lt, Int.ofNat_le, Nat.reduceSub, Nat.reduceAdd, Nat.reduceLT, Nat.reduceLeDiff, Nat.reduceEqDiff, Int.reduceLT, Int.reduceLE, Int.reduceAdd, Int.reduceSub, Int.reduceNeg, Int.reduceMul, Int.reducePow, Nat.reducePow, Int.reduceMod, Int.reduceDiv, Int.reduceToNat, Int.reduceEq, Nat.reduceMul, Int.reduceNegSucc, Nat.zero_le, ro_non, e, e2, q1, pairD]
theorem st_drop (n : Nat) (h : 6 ≤ n) (R : Tab) (hR : RowOk R) (s : PyData) (hs : St s R) (k : Int) (hk : in99 k) (hR2 : RowOk (dropR R k)) : ∃ A, dropR R k = A ++ (R.filter fun p => decide (k < p.1)) ∧ run T n Fdrop_zippers [.v s, .v (.int k)] = .ok (.v (two A (R.filter fun p => decide (k < p.1))), []) := by
  obtain ⟨a, b, rfl, rfl⟩ := hs
  obtain ⟨_, _, h3⟩ := two_ok hR
  obtain ⟨n, rfl⟩ := ex_add (show 1 ≤ n by omega)
  rw [run_drop_zippers]
  obtain ⟨l, hp, e⟩ := s_opened n (by omega) a b hR.1 (by omega) k
  have e2 := s_has_key n (by omega) (a ++ b) hR.1 k l hp ((a ++ b).take l)
  refine ⟨(a ++ b).take l, by rw [hp.t]; exact (drop_split hR.1).symm, ?_⟩
  cases hh : hasR (a ++ b) k with
  | true =>
    obtain ⟨h1, h2⟩ := (pos_has hR.1 hp).mpr hh
    rw [← (pos_look hR.1 hp h1 h2).2]
    rw [hh] at e2
    have s1 := slc_from (xs := ((a ++ b).drop l).map pairD) (k := 1)
    rw [← List.map_drop, List.drop_drop, cast_1] at s1
    unfold two at e e2 ⊢
    simp only [f_drop_zippers, t_drop_zippers, u_drop_zippers_0, u_drop_zippers_1, ro_w, ro_x, ro_y, ro_0, ro_1, ro_2, ro_3, ro_4, ro_5, ro_6, ro_7, ro_8, ro_9, ro_10, ro_11, ro_12, ro_13, ro_14, ro_15, ro_16, ro_17, ro_18, ro_19, ro_20, ro_21, ro_22, ro_23, List.length_map, reduceIte, reduceCtorEq, Bool.false_eq_true, Bool.not_true, Bool.not_false, Bool.true_and, Bool.and_true, Bool.false_and, Bool.and_false, decide_eq_true_eq, decide_true, decide_false, Bool.or_true, Bool.true_or, Bool.or_false, Bool.false_or, Bool.not_eq_true', decide_eq_false_iff_not, not_true_eq_false, not_false_eq_true, and_self, and_true, true_and, or_true, true_or, or_false, false_or, ne_eq, eq_self, Int.ofNat_lt, Int.ofNat_le, Nat.reduceSub, Nat.reduceAdd, Nat.reduceLT, Nat.reduceLeDiff, Nat.reduceEqDiff, Int.reduceLT, Int.reduceLE, Int.reduceAdd, Int.reduceSub, Int.reduceNeg, Int.reduceMul, Int.reducePow, Nat.reducePow, Int.reduceMod, Int.reduceDiv, Int.reduceToNat, Int.reduceEq, Nat.reduceMul, Int.reduceNegSucc, Nat.zero_le, ro_non, e, e2, s1]
  | false =>
    rw [← (pos_none hR.1 hp hh).2]
    rw [hh] at e2
    unfold two at e e2 ⊢
    simp only [f_drop_zippers, t_drop_zippers, u_drop_zippers_0, u_drop_zippers_1, ro_w, ro_x, ro_y, ro_0, ro_1, ro_2, ro_3, ro_4, ro_5, ro_6, ro_7, ro_8, ro_9, ro_10, ro_11, ro_12, ro_13, ro_14, ro_15, ro_16, ro_17, ro_18, ro_19, ro_20, ro_21, ro_22, ro_23, List.length_map, reduceIte, reduceCtorEq, Bool.false_eq_true, Bool.not_true, Bool.not_false, Bool.true_and, Bool.and_true, Bool.false_and, Bool.and_false, decide_eq_true_eq, decide_true, decide_false, Bool.or_true, Bool.true_or, Bool.or_false, Bool.false_or, Bool.not_eq_true', decide_eq_false_iff_not, not_true_eq_false, not_false_eq_true, and_self, and_true, true_and, or_true, true_or, or_false, false_or, ne_eq, eq_self, Int.ofNat_lt, Int.ofNat_le, Nat.reduceSub, Nat.reduceAdd, Nat.reduceLT, Nat.reduceLeDiff, Nat.reduceEqDiff, Int.reduceLT, Int.reduceLE, Int.reduceAdd, Int.reduceSub, Int.reduceNeg, Int.reduceMul, Int.reducePow, Nat.reducePow, Int.reduceMod, Int.reduceDiv, Int.reduceToNat, Int.reduceEq, Nat.reduceMul, Int.reduceNegSucc, Nat.zero_le, ro_non, e, e2]
theorem st_empty (n : Nat) (h : 6 ≤ n) : ∃ s, St s [] ∧ run T n Fempty_zippers [] = .ok (.v s, []) := by
  obtain ⟨n, rfl⟩ := ex_add (show 1 ≤ n by omega)
  refine ⟨two [] [], ⟨[], [], rfl, rfl⟩, ?_⟩
  rw [run_empty_zippers]
  simp only [f_empty_zippers, t_empty_zippers, u_empty_zippers_0, ro_w, ro_x, ro_y, ro_0, ro_1, ro_2, ro_3, ro_4, ro_5, ro_6, ro_7, ro_8, ro_9, ro_10, ro_11, ro_12, ro_13, ro_14, ro_15, ro_16, ro_17, ro_18, ro_19, ro_20, ro_21, ro_22, ro_23, List.length_map, reduceIte, reduceCtorEq, Bool.false_eq_true, Bool.not_true, Bool.not_false, Bool.true_and, Bool.and_true, Bool.false_and, Bool.and_false, decide_eq_true_eq, decide_true, decide_false, Bool.or_true, Bool.true_or, Bool.or_false, Bool.false_or, Bool.not_eq_true', decide_eq_false_iff_not, not_true_eq_false, not_false_eq_true, and_self, and_true, true_and, or_true, true_or, or_false, false_or, ne_eq, eq_self, Int.ofNat_lt, Int.ofNat_le, Nat.reduceSub, Nat.reduceAdd, Nat.reduceLT, Nat.reduceLeDiff, Nat.reduceEqDiff, Int.reduceLT, Int.reduceLE, Int.reduceAdd, Int.reduceSub, Int.reduceNeg, Int.reduceMul, Int.reducePow, Nat.reducePow, Int.reduceMod, Int.reduceDiv, Int.reduceToNat, Int.reduceEq, Nat.reduceMul, Int.reduceNegSucc, Nat.zero_le, ro_non, two]
theorem st_rows (n : Nat) (h : 6 ≤ n) (R : Tab) (hR : RowOk R) (s : PyData) (hs : St s R) : run T n Frows_zippers [.v s] = .ok (.v (.tuple (R.map pairD)), []) := by
  obtain ⟨a, b, rfl, rfl⟩ := hs
  obtain ⟨_, _, h3⟩ := two_ok hR
  have hz : lim = 16777216 := rfl
  obtain ⟨n, rfl⟩ := ex_add (show 1 ≤ n by omega)
  rw [run_rows_zippers]
  have q1 : a.length + b.length ≤ lim := by omega
  simp only [f_rows_zippers, t_rows_zippers, u_rows_zippers_0, ro_w, ro_x, ro_y, ro_0, ro_1, ro_2, ro_3, ro_4, ro_5, ro_6, ro_7, ro_8, ro_9, ro_10, ro_11, ro_12, ro_13, ro_14, ro_15, ro_16, ro_17, ro_18, ro_19, ro_20, ro_21, ro_22, ro_23, List.length_map, reduceIte, reduceCtorEq, Bool.false_eq_true, Bool.not_true, Bool.not_false, Bool.true_and, Bool.and_true, Bool.false_and, Bool.and_false, decide_eq_true_eq, decide_true, decide_false, Bool.or_true, Bool.true_or, Bool.or_false, Bool.false_or, Bool.not_eq_true', decide_eq_false_iff_not, not_true_eq_false, not_false_eq_true, and_self, and_true, true_and, or_true, true_or, or_false, false_or, ne_eq, eq_self, Int.ofNat_lt, Int.ofNat_le, Nat.reduceSub, Nat.reduceAdd, Nat.reduceLT, Nat.reduceLeDiff, Nat.reduceEqDiff, Int.reduceLT, Int.reduceLE, Int.reduceAdd, Int.reduceSub, Int.reduceNeg, Int.reduceMul, Int.reducePow, Nat.reducePow, Int.reduceMod, Int.reduceDiv, Int.reduceToNat, Int.reduceEq, Nat.reduceMul, Int.reduceNegSucc, Nat.zero_le, ro_non, two, q1, List.map_append]
end Zi

/-! the law: three stores side by side -/
def tabP (t : Tab) : List (PyData × PyData) := t.map fun p => (PyData.int p.1, PyData.int p.2)
theorem dict_tab : ∀ {t : Tab}, dictK (tabP t) = some (tabK t)
  | [] => rfl
  | p :: t => by
    have ih := dict_tab (t := t)
    simp only [tabP, List.map_cons] at ih ⊢
    simp only [dictK, dK, Option.bind_some, ih, Option.map_some]
    rfl
theorem s_after (n : Nat) (h : 1 ≤ n) (t : Tab) (hl : t.length ≤ 1000) (d : Deed) : run T n F_law_after [.v (.dict (tabP t)), .v (deedD d)] = .ok (.m (.d (tabK (stepT t d))), []) := by
  have hz : lim = 16777216 := rfl
  obtain ⟨n, rfl⟩ := ex_add h
  rw [run__law_after]
  have qt : (tabK t).length < lim := by unfold tabK; rw [List.length_map]; omega
  have e1 := dict_tab (t := t)
  cases d with
  | inl p =>
    obtain ⟨k, v⟩ := p
    simp only [f__law_after, t__law_after, u__law_after_0, u__law_after_1, u__law_after_2, u__law_after_3, u__law_after_4, ro_w, ro_x, ro_y, ro_0, ro_1, ro_2, ro_3, ro_4, ro_5, ro_6, ro_7, ro_8, ro_9, ro_10, ro_11, ro_12, ro_13, ro_14, ro_15, ro_16, ro_17, ro_18, ro_19, ro_20, ro_21, ro_22, ro_23, List.length_map, reduceIte, reduceCtorEq, Bool.false_eq_true, Bool.not_true, Bool.not_false, Bool.true_and, Bool.and_true, Bool.false_and, Bool.and_false, decide_eq_true_eq, decide_true, decide_false, Bool.or_true, Bool.true_or, Bool.or_false, Bool.false_or, Bool.not_eq_true', decide_eq_false_iff_not, not_true_eq_false, not_false_eq_true, and_self, and_true, true_and, or_true, true_or, or_false, false_or, ne_eq, eq_self, Int.ofNat_lt, Int.ofNat_le, Nat.reduceSub, Nat.reduceAdd, Nat.reduceLT, Nat.reduceLeDiff, Nat.reduceEqDiff, Int.reduceLT, Int.reduceLE, Int.reduceAdd, Int.reduceSub, Int.reduceNeg, Int.reduceMul, Int.reducePow, Nat.reducePow, Int.reduceMod, Int.reduceDiv, Int.reduceToNat, Int.reduceEq, Nat.reduceMul, Int.reduceNegSucc, Nat.zero_le, ro_non, e1, stepT, deedD, eq_pp, setD_int qt, putP_tab]
  | inr k =>
    simp only [f__law_after, t__law_after, u__law_after_0, u__law_after_1, u__law_after_2, u__law_after_3, u__law_after_4, ro_w, ro_x, ro_y, ro_0, ro_1, ro_2, ro_3, ro_4, ro_5, ro_6, ro_7, ro_8, ro_9, ro_10, ro_11, ro_12, ro_13, ro_14, ro_15, ro_16, ro_17, ro_18, ro_19, ro_20, ro_21, ro_22, ro_23, List.length_map, reduceIte, reduceCtorEq, Bool.false_eq_true, Bool.not_true, Bool.not_false, Bool.true_and, Bool.and_true, Bool.false_and, Bool.and_false, decide_eq_true_eq, decide_true, decide_false, Bool.or_true, Bool.true_or, Bool.or_false, Bool.false_or, Bool.not_eq_true', decide_eq_false_iff_not, not_true_eq_false, not_false_eq_true, and_self, and_true, true_and, or_true, true_or, or_false, false_or, ne_eq, eq_self, Int.ofNat_lt, Int.ofNat_le, Nat.reduceSub, Nat.reduceAdd, Nat.reduceLT, Nat.reduceLeDiff, Nat.reduceEqDiff, Int.reduceLT, Int.reduceLE, Int.reduceAdd, Int.reduceSub, Int.reduceNeg, Int.reduceMul, Int.reducePow, Nat.reducePow, Int.reduceMod, Int.reduceDiv, Int.reduceToNat, Int.reduceEq, Nat.reduceMul, Int.reduceNegSucc, Nat.zero_le, ro_non, e1, stepT, deedD, eq_dp, pop_tab]
theorem s_pairsP (n : Nat) (h : 1 ≤ n) (t : Tab) (hl : t.length ≤ 1000000) : run T n F_law_pairs [.v (.dict (tabP t))] = .ok (.v (.tuple ((sortT t).map pairD)), []) := by
  have hz : lim = 16777216 := rfl
  obtain ⟨n, rfl⟩ := ex_add h
  rw [run__law_pairs]
  have e := comp_na (cond := evC (run T n) q__law_pairs_0) (elt := ev (run T n) e__law_pairs_0) (i := 1) (ρ := [some (.v (.dict (tabP t))), none]) PyData.int (fun k => .tuple [.int k, .int ((lookT t k).getD 0)]) rfl (sortI (keysT t)) (fun k hk => by simp only [q__law_pairs_0, ro_w, ro_x, ro_y, ro_0, ro_1, ro_2, ro_3, ro_4, ro_5, ro_6, ro_7, ro_8, ro_9, ro_10, ro_11, ro_12, ro_13, ro_14, ro_15, ro_16, ro_17, ro_18, ro_19, ro_20, ro_21, ro_22, ro_23, List.length_map, reduceIte, reduceCtorEq, Bool.false_eq_true, Bool.not_true, Bool.not_false, Bool.true_and, Bool.and_true, Bool.false_and, Bool.and_false, decide_eq_true_eq, decide_true, decide_false, Bool.or_true, Bool.true_or, Bool.or_false, Bool.false_or, Bool.not_eq_true', decide_eq_false_iff_not, not_true_eq_false, not_false_eq_true, and_self, and_true, true_and, or_true, true_or, or_false, false_or, ne_eq, eq_self, Int.ofNat_lt, Int.ofNat_le, Nat.reduceSub, Nat.reduceAdd, Nat.reduceLT, Nat.reduceLeDiff, Nat.reduceEqDiff, Int.reduceLT, Int.reduceLE, Int.reduceAdd, Int.reduceSub, Int.reduceNeg, Int.reduceMul, Int.reducePow, Nat.reducePow, Int.reduceMod, Int.reduceDiv, Int.reduceToNat, Int.reduceEq, Nat.reduceMul, Int.reduceNegSucc, Nat.zero_le, ro_non]) (fun k hk => by
      have hk := mem_sortI.mp hk
      have hi := idx_tab (t := t) (k := k)
      cases hv : lookT t k with
      | none => exact absurd hk (look_none.mp hv)
      | some v =>
        rw [hv] at hi
        exact ⟨.v (.tuple [.int k, .int v]), by simp only [e__law_pairs_0, ro_w, ro_x, ro_y, ro_0, ro_1, ro_2, ro_3, ro_4, ro_5, ro_6, ro_7, ro_8, ro_9, ro_10, ro_11, ro_12, ro_13, ro_14, ro_15, ro_16, ro_17, ro_18, ro_19, ro_20, ro_21, ro_22, ro_23, List.length_map, reduceIte, reduceCtorEq, Bool.false_eq_true, Bool.not_true, Bool.not_false, Bool.true_and, Bool.and_true, Bool.false_and, Bool.and_false, decide_eq_true_eq, decide_true, decide_false, Bool.or_true, Bool.true_or, Bool.or_false, Bool.false_or, Bool.not_eq_true', decide_eq_false_iff_not, not_true_eq_false, not_false_eq_true, and_self, and_true, true_and, or_true, true_or, or_false, false_or, ne_eq, eq_self, Int.ofNat_lt, Int.ofNat_le, Nat.reduceSub, Nat.reduceAdd, Nat.reduceLT, Nat.reduceLeDiff, Nat.reduceEqDiff, Int.reduceLT, Int.reduceLE, Int.reduceAdd, Int.reduceSub, Int.reduceNeg, Int.reduceMul, Int.reducePow, Nat.reducePow, Int.reduceMod, Int.reduceDiv, Int.reduceToNat, Int.reduceEq, Nat.reduceMul, Int.reduceNegSucc, Nat.zero_le, ro_non, tabP, hi], rfl⟩) (by rw [len_sortI, hz]; simp [keysT]; omega)
  have hk : (tabP t).map (·.1) = (keysT t).map .int := by simp only [tabP, keysT, List.map_map]; rfl
  simp only [f__law_pairs, t__law_pairs, u__law_pairs_0, ro_w, ro_x, ro_y, ro_0, ro_1, ro_2, ro_3, ro_4, ro_5, ro_6, ro_7, ro_8, ro_9, ro_10, ro_11, ro_12, ro_13, ro_14, ro_15, ro_16, ro_17, ro_18, ro_19, ro_20, ro_21, ro_22, ro_23, List.length_map, reduceIte, reduceCtorEq, Bool.false_eq_true, Bool.not_true, Bool.not_false, Bool.true_and, Bool.and_true, Bool.false_and, Bool.and_false, decide_eq_true_eq, decide_true, decide_false, Bool.or_true, Bool.true_or, Bool.or_false, Bool.false_or, Bool.not_eq_true', decide_eq_false_iff_not, not_true_eq_false, not_false_eq_true, and_self, and_true, true_and, or_true, true_or, or_false, false_or, ne_eq, eq_self, Int.ofNat_lt, Int.ofNat_le, Nat.reduceSub, Nat.reduceAdd, Nat.reduceLT, Nat.reduceLeDiff, Nat.reduceEqDiff, Int.reduceLT, Int.reduceLE, Int.reduceAdd, Int.reduceSub, Int.reduceNeg, Int.reduceMul, Int.reducePow, Nat.reducePow, Int.reduceMod, Int.reduceDiv, Int.reduceToNat, Int.reduceEq, Nat.reduceMul, Int.reduceNegSucc, Nat.zero_le, ro_non, hk, intsD_map, e]
  unfold sortT
  rw [List.map_map]
  rfl
def woI (ks : List Int) (k : Int) : List Int := ks.filter fun j => !decide (j = k)
theorem keys_wo {A : Tab} {k : Int} : keysT (without A k) = woI (keysT A) k := by
  unfold keysT without woI
  rw [List.filter_map]
  rfl
theorem fst_map {A : Tab} : A.map (fun p => PyData.int p.1) = (keysT A).map .int := by unfold keysT; rw [List.map_map]; rfl
theorem nz_ints {A R : Tab} (hA : FOk A R) (hR : RowOk R) : nz 400 1 (.list ((keysT A).map .int)) := by
  refine nz_ofL (by have := fok_len hA hR; simp [keysT]; omega) fun x hx => ?_
  obtain ⟨k, hk, rfl⟩ := List.mem_map.mp hx
  obtain ⟨p, hp, rfl⟩ := List.mem_map.mp hk
  obtain ⟨⟨h1, h2⟩, _⟩ := fok_in hA hR p hp
  simp only [nz]; omega
/-- fronts, turned trees, zippers of one table -/
structure Trio (t : Tab) (A : Tab) (b c : PyData) : Prop where
  a : FOk A (sortT t)
  b : St b (sortT t)
  c : Zi.St c (sortT t)
def frm (sc : PyData) (o : MO) (A : Tab) (t : Tab) (x4 : Option SV) (b c : PyData) (x8 x9 : Option SV) : Rf.Env :=
  [some (.v sc), some (.m o), some (.v (.list ((keysT A).map .int))), some (.v (.dict (tabP t))), x4, some (.v (rowD A)), some (.v b), some (.v c), x8, x9, none, none]
def mvF (A : Tab) (k : Int) : Tab := match lookT A k with | some v => (k, v) :: without A k | none => A
theorem fok_mv {A R : Tab} (h : FOk A R) (hR : RowOk R) (k : Int) : FOk (mvF A k) R := by
  unfold mvF
  cases hv : lookT A k with
  | none => exact h
  | some v =>
    have e : lookT R k = some v := by rw [← fok_look h hR, hv]
    have hm := (mem_look (asc_keys hR.1)).mp e
    have := fok_put h k v
    refine ⟨this.nd, fun p => ?_⟩
    rw [this.mem, mem_ins]
    constructor
    · rintro (rfl | ⟨h1, _⟩)
      · exact hm
      · exact h1
    · intro hp
      by_cases c : p.1 = k
      · left
        obtain ⟨j, w⟩ := p
        cases c
        have := (mem_look (asc_keys hR.1)).mpr hp
        rw [e] at this
        cases this
        rfl
      · exact .inr ⟨hp, c⟩
/-- behind the deed: a key is looked at -/
theorem look_step (n : Nat) (hn : 90 ≤ n) (sc : PyData) (o : MO) (ho : PoolOk o) (t A : Tab) (hl : t.length ≤ 40) (hR : RowOk (sortT t)) (b c : PyData) (hT : Trio t A b c) (x4 x8 x9 : Option SV) :
    ∃ o' A' b' y9, PoolOk o' ∧ Trio t A' b' c ∧ evSs (run T n) u_law_11 (frm sc o A t x4 b c x8 x9) = .ok (.nxt (frm sc o' A' t x4 b' c x8 y9)) := by
  have hz : lim = 16777216 := rfl
  obtain ⟨j, o', ho', hj, ek⟩ := s_key n (by omega) o ho
  have lA := fok_len hT.a hR
  have e1 := s_moved n (by omega) A (by omega) j
  obtain ⟨b', ⟨hb1, hb2⟩, e2⟩ := s_turn n (by omega) _ hR b hT.b j
  have hA' := fok_mv hT.a hR (j : Int)
  have lA' := fok_len hA' hR
  have hT' : Trio t (mvF A j) b' c := ⟨hA', hb1, hT.c⟩
  have e3 := in_tab (t := t) (k := (j : Int))
  have hlk : lookT A j = lookT t j := by rw [fok_look hT.a hR, look_sortT]
  have w1 := s_rowsF n (by omega) _ hR _ hA'
  have w2 := st_rows n (by omega) _ hR _ hb1
  have w3 := Zi.st_rows n (by omega) _ hR _ hT.c
  have w4 := s_pairsP n (by omega) t (by omega)
  have nr := nz_rows (L := 400) (D := 0) (by omega) hR
  have w5 := s_same (L := 400) (by omega) 3 n (by omega) (.list [.tuple ((sortT t).map pairD), .tuple ((sortT t).map pairD), .tuple ((sortT t).map pairD)]) (nz_ofL (by simp) fun x hx => by
    simp only [List.mem_cons, List.not_mem_nil, or_false, or_self] at hx
    rw [hx]; exact nr)
  have fl : [[PyData.tuple ((sortT t).map pairD)], [PyData.tuple ((sortT t).map pairD)], [PyData.tuple ((sortT t).map pairD)]].flatten = [PyData.tuple ((sortT t).map pairD), .tuple ((sortT t).map pairD), .tuple ((sortT t).map pairD)] := rfl
  have w6 := ne_same (nz_ints hA' hR) (by omega)
  have ec := comp_na (cond := evC (run T n) q_law_1) (elt := ev (run T n) e_law_1) (i := 11) (ρ := frm sc o' (mvF A j) t x4 b' c x8 (some (.v (.int j)))) pairD (fun p => .int p.1) rfl (mvF A j) (fun p _ => by simp only [frm, q_law_1, ro_w, ro_x, ro_y, ro_0, ro_1, ro_2, ro_3, ro_4, ro_5, ro_6, ro_7, ro_8, ro_9, ro_10, ro_11, ro_12, ro_13, ro_14, ro_15, ro_16, ro_17, ro_18, ro_19, ro_20, ro_21, ro_22, ro_23, List.length_map, reduceIte, reduceCtorEq, Bool.false_eq_true, Bool.not_true, Bool.not_false, Bool.true_and, Bool.and_true, Bool.false_and, Bool.and_false, decide_eq_true_eq, decide_true, decide_false, Bool.or_true, Bool.true_or, Bool.or_false, Bool.false_or, Bool.not_eq_true', decide_eq_false_iff_not, not_true_eq_false, not_false_eq_true, and_self, and_true, true_and, or_true, true_or, or_false, false_or, ne_eq, eq_self, Int.ofNat_lt, Int.ofNat_le, Nat.reduceSub, Nat.reduceAdd, Nat.reduceLT, Nat.reduceLeDiff, Nat.reduceEqDiff, Int.reduceLT, Int.reduceLE, Int.reduceAdd, Int.reduceSub, Int.reduceNeg, Int.reduceMul, Int.reducePow, Nat.reducePow, Int.reduceMod, Int.reduceDiv, Int.reduceToNat, Int.reduceEq, Nat.reduceMul, Int.reduceNegSucc, Nat.zero_le, ro_non]) (fun p _ => ⟨.v (.int p.1), by simp only [frm, e_law_1, ro_w, ro_x, ro_y, ro_0, ro_1, ro_2, ro_3, ro_4, ro_5, ro_6, ro_7, ro_8, ro_9, ro_10, ro_11, ro_12, ro_13, ro_14, ro_15, ro_16, ro_17, ro_18, ro_19, ro_20, ro_21, ro_22, ro_23, List.length_map, reduceIte, reduceCtorEq, Bool.false_eq_true, Bool.not_true, Bool.not_false, Bool.true_and, Bool.and_true, Bool.false_and, Bool.and_false, decide_eq_true_eq, decide_true, decide_false, Bool.or_true, Bool.true_or, Bool.or_false, Bool.false_or, Bool.not_eq_true', decide_eq_false_iff_not, not_true_eq_false, not_false_eq_true, and_self, and_true, true_and, or_true, true_or, or_false, false_or, ne_eq, eq_self, Int.ofNat_lt, Int.ofNat_le, Nat.reduceSub, Nat.reduceAdd, Nat.reduceLT, Nat.reduceLeDiff, Nat.reduceEqDiff, Int.reduceLT, Int.reduceLE, Int.reduceAdd, Int.reduceSub, Int.reduceNeg, Int.reduceMul, Int.reducePow, Nat.reducePow, Int.reduceMod, Int.reduceDiv, Int.reduceToNat, Int.reduceEq, Nat.reduceMul, Int.reduceNegSucc, Nat.zero_le, ro_non, pairD], rfl⟩) (by omega)
  rw [fst_map] at ec
  refine ⟨o', mvF A j, b', some (.v (.int j)), ho', hT', ?_⟩
  cases hv : lookT t j with
  | none =>
    rw [hv] at e3
    simp only [Option.isSome] at e3
    have em : mvF A j = A := by unfold mvF; rw [hlk, hv]
    rw [hlk, hv] at e1
    rw [em] at ec w1 w6 ⊢
    simp only [rowD, frm, tabP] at e1 ec w1 w4 w6 e3 ⊢
    simp only [u_law_11, u_law_12, u_law_13, u_law_14, u_law_15, ro_w, ro_x, ro_y, ro_0, ro_1, ro_2, ro_3, ro_4, ro_5, ro_6, ro_7, ro_8, ro_9, ro_10, ro_11, ro_12, ro_13, ro_14, ro_15, ro_16, ro_17, ro_18, ro_19, ro_20, ro_21, ro_22, ro_23, List.length_map, reduceIte, reduceCtorEq, Bool.false_eq_true, Bool.not_true, Bool.not_false, Bool.true_and, Bool.and_true, Bool.false_and, Bool.and_false, decide_eq_true_eq, decide_true, decide_false, Bool.or_true, Bool.true_or, Bool.or_false, Bool.false_or, Bool.not_eq_true', decide_eq_false_iff_not, not_true_eq_false, not_false_eq_true, and_self, and_true, true_and, or_true, true_or, or_false, false_or, ne_eq, eq_self, Int.ofNat_lt, Int.ofNat_le, Nat.reduceSub, Nat.reduceAdd, Nat.reduceLT, Nat.reduceLeDiff, Nat.reduceEqDiff, Int.reduceLT, Int.reduceLE, Int.reduceAdd, Int.reduceSub, Int.reduceNeg, Int.reduceMul, Int.reducePow, Nat.reducePow, Int.reduceMod, Int.reduceDiv, Int.reduceToNat, Int.reduceEq, Nat.reduceMul, Int.reduceNegSucc, Nat.zero_le, ro_non, ek, e1, e2, e3, w1, w2, w3, w4, fl, w5, w6, ec]
  | some v =>
    rw [hv] at e3
    simp only [Option.isSome] at e3
    have em : mvF A j = (↑j, v) :: without A j := by unfold mvF; rw [hlk, hv]
    rw [hlk, hv] at e1
    have hs : lookT (sortT t) j = some v := by rw [look_sortT, hv]
    obtain ⟨l, r, rfl⟩ := hb2 v hs
    have ej : cmpD .ne (.int (j : Int)) (.int (j : Int)) = some false := by simp only [ro_w, ro_x, ro_y, ro_0, ro_1, ro_2, ro_3, ro_4, ro_5, ro_6, ro_7, ro_8, ro_9, ro_10, ro_11, ro_12, ro_13, ro_14, ro_15, ro_16, ro_17, ro_18, ro_19, ro_20, ro_21, ro_22, ro_23, List.length_map, reduceIte, reduceCtorEq, Bool.false_eq_true, Bool.not_true, Bool.not_false, Bool.true_and, Bool.and_true, Bool.false_and, Bool.and_false, decide_eq_true_eq, decide_true, decide_false, Bool.or_true, Bool.true_or, Bool.or_false, Bool.false_or, Bool.not_eq_true', decide_eq_false_iff_not, not_true_eq_false, not_false_eq_true, and_self, and_true, true_and, or_true, true_or, or_false, false_or, ne_eq, eq_self, Int.ofNat_lt, Int.ofNat_le, Nat.reduceSub, Nat.reduceAdd, Nat.reduceLT, Nat.reduceLeDiff, Nat.reduceEqDiff, Int.reduceLT, Int.reduceLE, Int.reduceAdd, Int.reduceSub, Int.reduceNeg, Int.reduceMul, Int.reducePow, Nat.reducePow, Int.reduceMod, Int.reduceDiv, Int.reduceToNat, Int.reduceEq, Nat.reduceMul, Int.reduceNegSucc, Nat.zero_le, ro_non, eq_ii, ne_ii, eq_ss, ne_ss, eq_bb, ne_bb]
    have ec2 := comp_nf (cond := evC (run T n) q_law_2) (elt := ev (run T n) e_law_2) (i := 10) (ρ := [some (.v sc), some (.m o'), some (.v (.list ((keysT A).map .int))), some (.v (.dict (tabP t))), x4, some (.v (rowD (mvF A j))), some (.v (trD (.nd l j v r))), some (.v c), x8, some (.v (.int j)), none, none]) PyData.int (fun i => !decide (i = (j : Int))) PyData.int rfl (keysT A) (fun k _ => by simp only [q_law_2, ro_w, ro_x, ro_y, ro_0, ro_1, ro_2, ro_3, ro_4, ro_5, ro_6, ro_7, ro_8, ro_9, ro_10, ro_11, ro_12, ro_13, ro_14, ro_15, ro_16, ro_17, ro_18, ro_19, ro_20, ro_21, ro_22, ro_23, List.length_map, reduceIte, reduceCtorEq, Bool.false_eq_true, Bool.not_true, Bool.not_false, Bool.true_and, Bool.and_true, Bool.false_and, Bool.and_false, decide_eq_true_eq, decide_true, decide_false, Bool.or_true, Bool.true_or, Bool.or_false, Bool.false_or, Bool.not_eq_true', decide_eq_false_iff_not, not_true_eq_false, not_false_eq_true, and_self, and_true, true_and, or_true, true_or, or_false, false_or, ne_eq, eq_self, Int.ofNat_lt, Int.ofNat_le, Nat.reduceSub, Nat.reduceAdd, Nat.reduceLT, Nat.reduceLeDiff, Nat.reduceEqDiff, Int.reduceLT, Int.reduceLE, Int.reduceAdd, Int.reduceSub, Int.reduceNeg, Int.reduceMul, Int.reducePow, Nat.reducePow, Int.reduceMod, Int.reduceDiv, Int.reduceToNat, Int.reduceEq, Nat.reduceMul, Int.reduceNegSucc, Nat.zero_le, ro_non, eq_ii, ne_ii, eq_ss, ne_ss, eq_bb, ne_bb]) (fun k _ _ => ⟨.v (.int k), by simp only [e_law_2, ro_w, ro_x, ro_y, ro_0, ro_1, ro_2, ro_3, ro_4, ro_5, ro_6, ro_7, ro_8, ro_9, ro_10, ro_11, ro_12, ro_13, ro_14, ro_15, ro_16, ro_17, ro_18, ro_19, ro_20, ro_21, ro_22, ro_23, List.length_map, reduceIte, reduceCtorEq, Bool.false_eq_true, Bool.not_true, Bool.not_false, Bool.true_and, Bool.and_true, Bool.false_and, Bool.and_false, decide_eq_true_eq, decide_true, decide_false, Bool.or_true, Bool.true_or, Bool.or_false, Bool.false_or, Bool.not_eq_true', decide_eq_false_iff_not, not_true_eq_false, not_false_eq_true, and_self, and_true, true_and, or_true, true_or, or_false, false_or, ne_eq, eq_self, Int.ofNat_lt, Int.ofNat_le, Nat.reduceSub, Nat.reduceAdd, Nat.reduceLT, Nat.reduceLeDiff, Nat.reduceEqDiff, Int.reduceLT, Int.reduceLE, Int.reduceAdd, Int.reduceSub, Int.reduceNeg, Int.reduceMul, Int.reducePow, Nat.reducePow, Int.reduceMod, Int.reduceDiv, Int.reduceToNat, Int.reduceEq, Nat.reduceMul, Int.reduceNegSucc, Nat.zero_le, ro_non], rfl⟩) (by simp [keysT]; omega)
    have q1 : 1 + ((keysT A).filter fun i => !decide (i = (j : Int))).length ≤ lim := by
      have := List.length_filter_le (fun i => !decide (i = (j : Int))) (keysT A)
      simp only [keysT, List.length_map] at this ⊢
      omega
    have ek2 : keysT (mvF A j) = ↑j :: (keysT A).filter fun i => !decide (i = (j : Int)) := by
      rw [em]
      show ↑j :: keysT (without A j) = _
      rw [keys_wo]
      rfl
    rw [ek2] at ec w6
    rw [em] at ec ec2 w1 ⊢
    have ek3 : keysT ((↑j, v) :: without A j) = ↑j :: (keysT A).filter fun i => !decide (i = (j : Int)) := by rw [← em, ek2]
    simp only [rowD, frm, tabP, ek3, trD, List.map_cons] at e1 e2 w2 ec ec2 w1 w4 w6 e3 ⊢
    simp only [u_law_11, u_law_12, u_law_13, u_law_14, u_law_15, u_law_19, u_law_20, ro_w, ro_x, ro_y, ro_0, ro_1, ro_2, ro_3, ro_4, ro_5, ro_6, ro_7, ro_8, ro_9, ro_10, ro_11, ro_12, ro_13, ro_14, ro_15, ro_16, ro_17, ro_18, ro_19, ro_20, ro_21, ro_22, ro_23, List.length_map, reduceIte, reduceCtorEq, Bool.false_eq_true, Bool.not_true, Bool.not_false, Bool.true_and, Bool.and_true, Bool.false_and, Bool.and_false, decide_eq_true_eq, decide_true, decide_false, Bool.or_true, Bool.true_or, Bool.or_false, Bool.false_or, Bool.not_eq_true', decide_eq_false_iff_not, not_true_eq_false, not_false_eq_true, and_self, and_true, true_and, or_true, true_or, or_false, false_or, ne_eq, eq_self, Int.ofNat_lt, Int.ofNat_le, Nat.reduceSub, Nat.reduceAdd, Nat.reduceLT, Nat.reduceLeDiff, Nat.reduceEqDiff, Int.reduceLT, Int.reduceLE, Int.reduceAdd, Int.reduceSub, Int.reduceNeg, Int.reduceMul, Int.reducePow, Nat.reducePow, Int.reduceMod, Int.reduceDiv, Int.reduceToNat, Int.reduceEq, Nat.reduceMul, Int.reduceNegSucc, Nat.zero_le, ro_non, ek, e1, e2, e3, ej, w1, w2, w3, w4, fl, w5, w6, ec, ec2, q1]
theorem order_step (n : Nat) (sc : PyData) (o : MO) (t : Tab) (A : Tab) (hl : A.length ≤ 40) (a b c : PyData) (x4 x9 : Option SV) (k : Int) (tv : Option SV) :
    compR [10] (bindTg (.n 10)) (evC (run T n) q_law_0) (ev (run T n) e_law_0) ((keysT A).map .int) [some (.v sc), some (.m o), some (.v (.list ((keysT A).map .int))), tv, x4, some (.v a), some (.v b), some (.v c), some (.v (.int k)), x9, none, none] []
      = .ok ((keysT (without A k)).map .int, [some (.v sc), some (.m o), some (.v (.list ((keysT A).map .int))), tv, x4, some (.v a), some (.v b), some (.v c), some (.v (.int k)), x9, none, none]) := by
  have hz : lim = 16777216 := rfl
  rw [keys_wo]
  exact comp_nf (cond := evC (run T n) q_law_0) (elt := ev (run T n) e_law_0) (i := 10) (ρ := [some (.v sc), some (.m o), some (.v (.list ((keysT A).map .int))), tv, x4, some (.v a), some (.v b), some (.v c), some (.v (.int k)), x9, none, none]) PyData.int (fun i => !decide (i = k)) PyData.int rfl (keysT A) (fun k _ => by simp only [q_law_0, ro_w, ro_x, ro_y, ro_0, ro_1, ro_2, ro_3, ro_4, ro_5, ro_6, ro_7, ro_8, ro_9, ro_10, ro_11, ro_12, ro_13, ro_14, ro_15, ro_16, ro_17, ro_18, ro_19, ro_20, ro_21, ro_22, ro_23, List.length_map, reduceIte, reduceCtorEq, Bool.false_eq_true, Bool.not_true, Bool.not_false, Bool.true_and, Bool.and_true, Bool.false_and, Bool.and_false, decide_eq_true_eq, decide_true, decide_false, Bool.or_true, Bool.true_or, Bool.or_false, Bool.false_or, Bool.not_eq_true', decide_eq_false_iff_not, not_true_eq_false, not_false_eq_true, and_self, and_true, true_and, or_true, true_or, or_false, false_or, ne_eq, eq_self, Int.ofNat_lt, Int.ofNat_le, Nat.reduceSub, Nat.reduceAdd, Nat.reduceLT, Nat.reduceLeDiff, Nat.reduceEqDiff, Int.reduceLT, Int.reduceLE, Int.reduceAdd, Int.reduceSub, Int.reduceNeg, Int.reduceMul, Int.reducePow, Nat.reducePow, Int.reduceMod, Int.reduceDiv, Int.reduceToNat, Int.reduceEq, Nat.reduceMul, Int.reduceNegSucc, Nat.zero_le, ro_non, eq_ii, ne_ii, eq_ss, ne_ss, eq_bb, ne_bb]) (fun k _ _ => ⟨.v (.int k), by simp only [e_law_0, ro_w, ro_x, ro_y, ro_0, ro_1, ro_2, ro_3, ro_4, ro_5, ro_6, ro_7, ro_8, ro_9, ro_10, ro_11, ro_12, ro_13, ro_14, ro_15, ro_16, ro_17, ro_18, ro_19, ro_20, ro_21, ro_22, ro_23, List.length_map, reduceIte, reduceCtorEq, Bool.false_eq_true, Bool.not_true, Bool.not_false, Bool.true_and, Bool.and_true, Bool.false_and, Bool.and_false, decide_eq_true_eq, decide_true, decide_false, Bool.or_true, Bool.true_or, Bool.or_false, Bool.false_or, Bool.not_eq_true', decide_eq_false_iff_not, not_true_eq_false, not_false_eq_true, and_self, and_true, true_and, or_true, true_or, or_false, false_or, ne_eq, eq_self, Int.ofNat_lt, Int.ofNat_le, Nat.reduceSub, Nat.reduceAdd, Nat.reduceLT, Nat.reduceLeDiff, Nat.reduceEqDiff, Int.reduceLT, Int.reduceLE, Int.reduceAdd, Int.reduceSub, Int.reduceNeg, Int.reduceMul, Int.reducePow, Nat.reducePow, Int.reduceMod, Int.reduceDiv, Int.reduceToNat, Int.reduceEq, Nat.reduceMul, Int.reduceNegSucc, Nat.zero_le, ro_non], rfl⟩) (by simp [keysT]; omega)
theorem deed_step (n : Nat) (hn : 90 ≤ n) (sc : PyData) (o : MO) (ho : PoolOk o) (t A : Tab) (ht : (keysT t).Nodup) (hl : t.length ≤ 40) (hR : RowOk (sortT t)) (b c : PyData) (hT : Trio t A b c) (d : Deed) (hd : deedOk d) (hl2 : (stepT t d).length ≤ 40) (hR2 : RowOk (sortT (stepT t d))) (x8 x9 : Option SV) :
    ∃ o' A' b' c' y8 y9, PoolOk o' ∧ Trio (stepT t d) A' b' c' ∧ evSs (run T n) u_law_6 (frm sc o A t (some (.v (deedD d))) b c x8 x9) = .ok (.nxt (frm sc o' A' (stepT t d) (some (.v (deedD d))) b' c' y8 y9)) := by
  have hz : lim = 16777216 := rfl
  have lA := fok_len hT.a hR
  have e0 := s_after n (by omega) t (by omega) d
  have ds := data_tab (t := stepT t d)
  cases d with
  | inl p =>
    obtain ⟨k, v⟩ := p
    have hR3 : RowOk (insR (sortT t) k v) := by rw [← sort_putT ht]; exact hR2
    have hs := sort_putT (k := k) (v := v) ht
    have e1 := s_put n (by omega) A (by omega) k v
    obtain ⟨b', ⟨hb1, l, r, rfl⟩, e2⟩ := st_put n (by omega) _ hR b hT.b k v hd.1 hd.2 hR3
    obtain ⟨C, D, hC, e3⟩ := Zi.st_put n (by omega) _ hR c hT.c k v hd.1 hd.2 hR3
    have hA' : FOk ((k, v) :: without A k) (insR (sortT t) k v) := fok_put hT.a k v
    rw [← hs] at hA' hb1 hC
    obtain ⟨o', A', b', y9, ho', hT', e⟩ := look_step n hn sc o ho (stepT t (.inl (k, v))) ((k, v) :: without A k) hl2 hR2 (trD (.nd l k v r)) (Zi.two C ((k, v) :: D)) ⟨hA', hb1, C, _, hC, rfl⟩ (some (.v (deedD (.inl (k, v))))) (some (.v (.int k))) x9
    have q1 : 1 + (keysT (without A k)).length ≤ lim := by
      have := wo_len (A := A) (k := k)
      simp only [keysT, List.length_map]; omega
    have ej : cmpD .ne (.int k) (.int k) = some false := by simp only [ro_w, ro_x, ro_y, ro_0, ro_1, ro_2, ro_3, ro_4, ro_5, ro_6, ro_7, ro_8, ro_9, ro_10, ro_11, ro_12, ro_13, ro_14, ro_15, ro_16, ro_17, ro_18, ro_19, ro_20, ro_21, ro_22, ro_23, List.length_map, reduceIte, reduceCtorEq, Bool.false_eq_true, Bool.not_true, Bool.not_false, Bool.true_and, Bool.and_true, Bool.false_and, Bool.and_false, decide_eq_true_eq, decide_true, decide_false, Bool.or_true, Bool.true_or, Bool.or_false, Bool.false_or, Bool.not_eq_true', decide_eq_false_iff_not, not_true_eq_false, not_false_eq_true, and_self, and_true, true_and, or_true, true_or, or_false, false_or, ne_eq, eq_self, Int.ofNat_lt, Int.ofNat_le, Nat.reduceSub, Nat.reduceAdd, Nat.reduceLT, Nat.reduceLeDiff, Nat.reduceEqDiff, Int.reduceLT, Int.reduceLE, Int.reduceAdd, Int.reduceSub, Int.reduceNeg, Int.reduceMul, Int.reducePow, Nat.reducePow, Int.reduceMod, Int.reduceDiv, Int.reduceToNat, Int.reduceEq, Nat.reduceMul, Int.reduceNegSucc, Nat.zero_le, ro_non, eq_ii, ne_ii, eq_ss, ne_ss, eq_bb, ne_bb]
    refine ⟨o', A', b', _, some (.v (.int k)), y9, ho', hT', ?_⟩
    have eo := order_step n sc o t A (by omega) (rowD ((k, v) :: without A k)) (trD (.nd l k v r)) (Zi.two C ((k, v) :: D)) (some (.v (deedD (.inl (k, v))))) x9 k (some (.v (.dict (tabP (stepT t (.inl (k, v)))))))
    simp only [frm, rowD, tabP, trD, Zi.two, List.map_cons, deedD, pairD, stepT] at e0 ds e1 e2 e3 e eo ⊢
    have ek3 : keysT ((k, v) :: without A k) = k :: keysT (without A k) := rfl
    rw [ek3] at e
    simp only [List.map_cons] at e
    simp only [u_law_6, u_law_7, u_law_8, u_law_9, u_law_10, u_law_16, u_law_18, ro_w, ro_x, ro_y, ro_0, ro_1, ro_2, ro_3, ro_4, ro_5, ro_6, ro_7, ro_8, ro_9, ro_10, ro_11, ro_12, ro_13, ro_14, ro_15, ro_16, ro_17, ro_18, ro_19, ro_20, ro_21, ro_22, ro_23, List.length_map, reduceIte, reduceCtorEq, Bool.false_eq_true, Bool.not_true, Bool.not_false, Bool.true_and, Bool.and_true, Bool.false_and, Bool.and_false, decide_eq_true_eq, decide_true, decide_false, Bool.or_true, Bool.true_or, Bool.or_false, Bool.false_or, Bool.not_eq_true', decide_eq_false_iff_not, not_true_eq_false, not_false_eq_true, and_self, and_true, true_and, or_true, true_or, or_false, false_or, ne_eq, eq_self, Int.ofNat_lt, Int.ofNat_le, Nat.reduceSub, Nat.reduceAdd, Nat.reduceLT, Nat.reduceLeDiff, Nat.reduceEqDiff, Int.reduceLT, Int.reduceLE, Int.reduceAdd, Int.reduceSub, Int.reduceNeg, Int.reduceMul, Int.reducePow, Nat.reducePow, Int.reduceMod, Int.reduceDiv, Int.reduceToNat, Int.reduceEq, Nat.reduceMul, Int.reduceNegSucc, Nat.zero_le, ro_non, e0, ds, e1, e2, e3, eo, eq_pp, ej, q1, e]
  | inr k =>
    have hR3 : RowOk (dropR (sortT t) k) := by rw [← sort_dropT ht]; exact hR2
    have hs := sort_dropT (k := k) ht
    have e1 := s_drop n (by omega) A (by omega) k
    obtain ⟨b', hb1, e2⟩ := st_drop n (by omega) _ hR b hT.b k hd hR3
    obtain ⟨C, hC, e3⟩ := Zi.st_drop n (by omega) _ hR c hT.c k hd hR3
    have hA' : FOk (without A k) (dropR (sortT t) k) := fok_drop hT.a k
    rw [← hs] at hA' hb1
    obtain ⟨o', A', b'', y9, ho', hT', e⟩ := look_step n hn sc o ho (stepT t (.inr k)) (without A k) hl2 hR2 b' _ ⟨hA', hb1, C, _, hs.trans hC, rfl⟩ (some (.v (deedD (.inr k)))) (some (.v (.int k))) x9
    have q1 : 0 + (keysT (without A k)).length ≤ lim := by
      have := wo_len (A := A) (k := k)
      simp only [keysT, List.length_map]; omega
    refine ⟨o', A', b'', _, some (.v (.int k)), y9, ho', hT', ?_⟩
    have eo := fun c' => order_step n sc o t A (by omega) (rowD (without A k)) b' c' (some (.v (deedD (.inr k)))) x9 k (some (.v (.dict (tabP (stepT t (.inr k))))))
    simp only [frm, rowD, tabP, Zi.two, deedD, stepT] at e0 ds e1 e2 e3 e eo ⊢
    simp only [u_law_6, u_law_7, u_law_8, u_law_9, u_law_10, u_law_17, u_law_18, ro_w, ro_x, ro_y, ro_0, ro_1, ro_2, ro_3, ro_4, ro_5, ro_6, ro_7, ro_8, ro_9, ro_10, ro_11, ro_12, ro_13, ro_14, ro_15, ro_16, ro_17, ro_18, ro_19, ro_20, ro_21, ro_22, ro_23, List.length_map, reduceIte, reduceCtorEq, Bool.false_eq_true, Bool.not_true, Bool.not_false, Bool.true_and, Bool.and_true, Bool.false_and, Bool.and_false, decide_eq_true_eq, decide_true, decide_false, Bool.or_true, Bool.true_or, Bool.or_false, Bool.false_or, Bool.not_eq_true', decide_eq_false_iff_not, not_true_eq_false, not_false_eq_true, and_self, and_true, true_and, or_true, true_or, or_false, false_or, ne_eq, eq_self, Int.ofNat_lt, Int.ofNat_le, Nat.reduceSub, Nat.reduceAdd, Nat.reduceLT, Nat.reduceLeDiff, Nat.reduceEqDiff, Int.reduceLT, Int.reduceLE, Int.reduceAdd, Int.reduceSub, Int.reduceNeg, Int.reduceMul, Int.reducePow, Nat.reducePow, Int.reduceMod, Int.reduceDiv, Int.reduceToNat, Int.reduceEq, Nat.reduceMul, Int.reduceNegSucc, Nat.zero_le, ro_non, e0, ds, e1, e2, e3, eo, eq_dp, q1, e]
theorem take_step {ds : List Deed} {i : Nat} {d : Deed} (h : ds[i]? = some d) : ds.take (i + 1) = ds.take i ++ [d] := by
  rw [List.take_add_one, h]; rfl
theorem deeds_loop (n : Nat) (hn : 90 ≤ n) (sc : PyData) (o : MO) (ho : PoolOk o) (ds : List Deed) (hds : DeedsOk ds) (b c : PyData) (hT : Trio [] [] b c) :
    ∃ ρ', forR (bindTg (.n 4)) (evSs (run T n) u_law_6) (ds.map deedD) (frm sc o [] [] none b c none none) = .ok (.nxt ρ') ∧ ∃ o A t x4 b c x8 x9, ρ' = frm sc o A t x4 b c x8 x9 := by
  obtain ⟨ρ', e, o', A', b', c', x4, x8, x9, h4, ho', hT', hρ⟩ := for_inv (bind := bindTg (.n 4)) (body := evSs (run T n) u_law_6)
    (I := fun k ρ => ∃ (o : MO) (A : Tab) (b c : PyData) (x4 x8 x9 : Option SV), x4.bind SV.mo = none ∧ PoolOk o ∧ Trio (tab (ds.take k)) A b c ∧ ρ = frm sc o A (tab (ds.take k)) x4 b c x8 x9)
    (ds.map deedD) 0 (frm sc o [] [] none b c none none) ⟨o, [], b, c, none, none, none, rfl, ho, hT, rfl⟩ (fun i x ρ hx ⟨o, A, b, c, x4, x8, x9, h4, ho, hT, hρ⟩ => by
      subst hρ
      rw [List.getElem?_map, Option.map_eq_some_iff] at hx
      obtain ⟨d, hd, rfl⟩ := hx
      rw [Nat.zero_add] at hT
      obtain ⟨hi, hd2⟩ := List.getElem?_eq_some_iff.mp hd
      have hdo := hds.1 d (hd2 ▸ List.getElem_mem hi)
      have t1 := hds.2 i (by omega)
      have t2 := hds.2 (i + 1) (by omega)
      have ok1 : ∀ d ∈ ds.take i, deedOk d := fun d h => hds.1 d (List.mem_of_mem_take h)
      have ok2 : ∀ d ∈ ds.take (i + 1), deedOk d := fun d h => hds.1 d (List.mem_of_mem_take h)
      have R1 := rowOk_tab ok1 t1
      have R2 := rowOk_tab ok2 t2
      rw [take_step hd, tab_snoc] at t2 R2
      obtain ⟨o', A', b', c', y8, y9, ho', hT', e⟩ := deed_step n hn sc o ho (tab (ds.take i)) A nodup_tab t1 R1 b c hT d hdo t2 R2 x8 x9
      rw [← tab_snoc, ← take_step hd] at hT' e
      rw [Nat.zero_add]
      refine ⟨frm sc o A (tab (ds.take i)) (some (.v (deedD d))) b c x8 x9, _, ?_, .inl e, o', A', b', c', _, y8, y9, rfl, ho', hT', rfl⟩
      simp only [frm, ro_w, ro_x, ro_y, ro_0, ro_1, ro_2, ro_3, ro_4, ro_5, ro_6, ro_7, ro_8, ro_9, ro_10, ro_11, ro_12, ro_13, ro_14, ro_15, ro_16, ro_17, ro_18, ro_19, ro_20, ro_21, ro_22, ro_23, List.length_map, reduceIte, reduceCtorEq, Bool.false_eq_true, Bool.not_true, Bool.not_false, Bool.true_and, Bool.and_true, Bool.false_and, Bool.and_false, decide_eq_true_eq, decide_true, decide_false, Bool.or_true, Bool.true_or, Bool.or_false, Bool.false_or, Bool.not_eq_true', decide_eq_false_iff_not, not_true_eq_false, not_false_eq_true, and_self, and_true, true_and, or_true, true_or, or_false, false_or, ne_eq, eq_self, Int.ofNat_lt, Int.ofNat_le, Nat.reduceSub, Nat.reduceAdd, Nat.reduceLT, Nat.reduceLeDiff, Nat.reduceEqDiff, Int.reduceLT, Int.reduceLE, Int.reduceAdd, Int.reduceSub, Int.reduceNeg, Int.reduceMul, Int.reducePow, Nat.reducePow, Int.reduceMod, Int.reduceDiv, Int.reduceToNat, Int.reduceEq, Nat.reduceMul, Int.reduceNegSucc, Nat.zero_le, ro_non, h4])
  exact ⟨ρ', e, _, _, _, _, _, _, _, _, hρ⟩
theorem law_runs (ns : List Int) (h : ns.length ≤ 63) : run T 200 Flaw [.v (.list (ns.map .int))] = .ok (.v (.bool true), []) := by
  obtain ⟨o, ho, e1⟩ := s_pool 199 (by omega) ns
  rw [show (200 : Nat) = 199 + 1 from rfl, run_law]
  have f1 : run T 199 Fempty_fronts [] = .ok (.v (rowD []), []) := by
    rw [show (199 : Nat) = 198 + 1 from rfl, run_empty_fronts]
    simp only [f_empty_fronts, t_empty_fronts, u_empty_fronts_0, ro_w, ro_x, ro_y, ro_0, ro_1, ro_2, ro_3, ro_4, ro_5, ro_6, ro_7, ro_8, ro_9, ro_10, ro_11, ro_12, ro_13, ro_14, ro_15, ro_16, ro_17, ro_18, ro_19, ro_20, ro_21, ro_22, ro_23, List.length_map, reduceIte, reduceCtorEq, Bool.false_eq_true, Bool.not_true, Bool.not_false, Bool.true_and, Bool.and_true, Bool.false_and, Bool.and_false, decide_eq_true_eq, decide_true, decide_false, Bool.or_true, Bool.true_or, Bool.or_false, Bool.false_or, Bool.not_eq_true', decide_eq_false_iff_not, not_true_eq_false, not_false_eq_true, and_self, and_true, true_and, or_true, true_or, or_false, false_or, ne_eq, eq_self, Int.ofNat_lt, Int.ofNat_le, Nat.reduceSub, Nat.reduceAdd, Nat.reduceLT, Nat.reduceLeDiff, Nat.reduceEqDiff, Int.reduceLT, Int.reduceLE, Int.reduceAdd, Int.reduceSub, Int.reduceNeg, Int.reduceMul, Int.reducePow, Nat.reducePow, Int.reduceMod, Int.reduceDiv, Int.reduceToNat, Int.reduceEq, Nat.reduceMul, Int.reduceNegSucc, Nat.zero_le, ro_non, rowD]
  obtain ⟨b, hb, f2⟩ := st_empty 199 (by omega)
  obtain ⟨c, hc, f3⟩ := Zi.st_empty 199 (by omega)
  obtain ⟨m, o2, ho2, hm2, e2⟩ := s_draw 199 (by omega) o ho 60 (by omega) (by omega)
  obtain ⟨ds, o3, ho3, hds, hdl, e3⟩ := s_deeds 199 (by omega) o2 ho2 m (by omega)
  obtain ⟨ρ', e4, o4, A, t, x4, b', c', x8, x9, rfl⟩ := deeds_loop 199 (by omega) (.list (ns.map .int)) o3 ho3 ds hds b c ⟨fok_nil, hb, hc⟩
  simp only [frm, tabP, keysT, rowD, List.map_nil] at e4 f1
  have dn : (MO.d []).data = .dict [] := rfl
  simp only [f_law, t_law, u_law_0, u_law_1, u_law_2, u_law_3, u_law_4, u_law_5, ro_w, ro_x, ro_y, ro_0, ro_1, ro_2, ro_3, ro_4, ro_5, ro_6, ro_7, ro_8, ro_9, ro_10, ro_11, ro_12, ro_13, ro_14, ro_15, ro_16, ro_17, ro_18, ro_19, ro_20, ro_21, ro_22, ro_23, List.length_map, reduceIte, reduceCtorEq, Bool.false_eq_true, Bool.not_true, Bool.not_false, Bool.true_and, Bool.and_true, Bool.false_and, Bool.and_false, decide_eq_true_eq, decide_true, decide_false, Bool.or_true, Bool.true_or, Bool.or_false, Bool.false_or, Bool.not_eq_true', decide_eq_false_iff_not, not_true_eq_false, not_false_eq_true, and_self, and_true, true_and, or_true, true_or, or_false, false_or, ne_eq, eq_self, Int.ofNat_lt, Int.ofNat_le, Nat.reduceSub, Nat.reduceAdd, Nat.reduceLT, Nat.reduceLeDiff, Nat.reduceEqDiff, Int.reduceLT, Int.reduceLE, Int.reduceAdd, Int.reduceSub, Int.reduceNeg, Int.reduceMul, Int.reducePow, Nat.reducePow, Int.reduceMod, Int.reduceDiv, Int.reduceToNat, Int.reduceEq, Nat.reduceMul, Int.reduceNegSucc, Nat.zero_le, ro_non, e1, e2, e3, f1, f2, f3, dn, e4]

end
section
open PySem PySem.Spec L2 Rf
def d_law : DD := ⟨mkD PySem.Challenge.pw_everystore_k86_whole_fronts_know_what_wa (Str.ofString "law") 51, [(Str.ofString "script")], [(Str.ofString "script"), (Str.ofString "pool"), (Str.ofString "order"), (Str.ofString "table"), (Str.ofString "deed"), (Str.ofString "a"), (Str.ofString "b"), (Str.ofString "c"), (Str.ofString "key"), (Str.ofString "other"), (Str.ofString "one"), (Str.ofString "pair")], t_law⟩
def d__law_pool : DD := ⟨mkD PySem.Challenge.pw_everystore_k86_whole_fronts_know_what_wa (Str.ofString "_law_pool") 44, [(Str.ofString "script")], [(Str.ofString "script"), (Str.ofString "salt"), (Str.ofString "cell")], t__law_pool⟩
def d__law_deeds : DD := ⟨mkD PySem.Challenge.pw_everystore_k86_whole_fronts_know_what_wa (Str.ofString "_law_deeds") 48, [(Str.ofString "pool"), (Str.ofString "many")], [(Str.ofString "pool"), (Str.ofString "many"), (Str.ofString "span"), (Str.ofString "there"), (Str.ofString "deeds"), (Str.ofString "k"), (Str.ofString "key"), (Str.ofString "one")], t__law_deeds⟩
def d_empty_fronts : DD := ⟨mkA PySem.Challenge.pw_everystore_k86_whole_fronts_know_what_wa (Str.ofString "empty_fronts") (Str.ofString "empty") 1, [], [], t_empty_fronts⟩
def d_empty_turntrees : DD := ⟨mkA PySem.Challenge.pw_everystore_k86_whole_fronts_know_what_wa (Str.ofString "empty_turntrees") (Str.ofString "empty") 20, [], [], t_empty_turntrees⟩
def d_empty_zippers : DD := ⟨mkA PySem.Challenge.pw_everystore_k86_whole_fronts_know_what_wa (Str.ofString "empty_zippers") (Str.ofString "empty") 32, [], [], t_empty_zippers⟩
def d__law_draw : DD := ⟨mkD PySem.Challenge.pw_everystore_k86_whole_fronts_know_what_wa (Str.ofString "_law_draw") 46, [(Str.ofString "pool"), (Str.ofString "many")], [(Str.ofString "pool"), (Str.ofString "many"), (Str.ofString "value"), (Str.ofString "cell"), (Str.ofString "mixed")], t__law_draw⟩
def d__law_after : DD := ⟨mkD PySem.Challenge.pw_everystore_k86_whole_fronts_know_what_wa (Str.ofString "_law_after") 50, [(Str.ofString "table"), (Str.ofString "deed")], [(Str.ofString "table"), (Str.ofString "deed"), (Str.ofString "found")], t__law_after⟩
def d__law_key : DD := ⟨mkD PySem.Challenge.pw_everystore_k86_whole_fronts_know_what_wa (Str.ofString "_law_key") 47, [(Str.ofString "pool")], [(Str.ofString "pool")], t__law_key⟩
def d_moved_up : DD := ⟨mkD PySem.Challenge.pw_everystore_k86_whole_fronts_know_what_wa (Str.ofString "moved_up") 10, [(Str.ofString "state"), (Str.ofString "key")], [(Str.ofString "state"), (Str.ofString "key"), (Str.ofString "value")], t_moved_up⟩
def d_turned_up : DD := ⟨mkD PySem.Challenge.pw_everystore_k86_whole_fronts_know_what_wa (Str.ofString "turned_up") 26, [(Str.ofString "state"), (Str.ofString "key")], [(Str.ofString "state"), (Str.ofString "key"), (Str.ofString "way"), (Str.ofString "here"), (Str.ofString "parent"), (Str.ofString "side"), (Str.ofString "elder"), (Str.ofString "elder_side")], t_turned_up⟩
def d_put_fronts : DD := ⟨mkA PySem.Challenge.pw_everystore_k86_whole_fronts_know_what_wa (Str.ofString "put_fronts") (Str.ofString "put") 6, [(Str.ofString "state"), (Str.ofString "key"), (Str.ofString "value")], [(Str.ofString "state"), (Str.ofString "key"), (Str.ofString "value")], t_put_fronts⟩
def d_put_turntrees : DD := ⟨mkA PySem.Challenge.pw_everystore_k86_whole_fronts_know_what_wa (Str.ofString "put_turntrees") (Str.ofString "put") 27, [(Str.ofString "state"), (Str.ofString "key"), (Str.ofString "value")], [(Str.ofString "state"), (Str.ofString "key"), (Str.ofString "value")], t_put_turntrees⟩
def d_put_zippers : DD := ⟨mkA PySem.Challenge.pw_everystore_k86_whole_fronts_know_what_wa (Str.ofString "put_zippers") (Str.ofString "put") 38, [(Str.ofString "state"), (Str.ofString "key"), (Str.ofString "value")], [(Str.ofString "state"), (Str.ofString "key"), (Str.ofString "value"), (Str.ofString "left"), (Str.ofString "right")], t_put_zippers⟩
def d_drop_fronts : DD := ⟨mkA PySem.Challenge.pw_everystore_k86_whole_fronts_know_what_wa (Str.ofString "drop_fronts") (Str.ofString "drop") 8, [(Str.ofString "state"), (Str.ofString "key")], [(Str.ofString "state"), (Str.ofString "key"), (Str.ofString "pair")], t_drop_fronts⟩
def d_drop_turntrees : DD := ⟨mkA PySem.Challenge.pw_everystore_k86_whole_fronts_know_what_wa (Str.ofString "drop_turntrees") (Str.ofString "drop") 29, [(Str.ofString "state"), (Str.ofString "key")], [(Str.ofString "state"), (Str.ofString "key"), (Str.ofString "top"), (Str.ofString "low")], t_drop_turntrees⟩
def d_drop_zippers : DD := ⟨mkA PySem.Challenge.pw_everystore_k86_whole_fronts_know_what_wa (Str.ofString "drop_zippers") (Str.ofString "drop") 40, [(Str.ofString "state"), (Str.ofString "key")], [(Str.ofString "state"), (Str.ofString "key"), (Str.ofString "left"), (Str.ofString "right")], t_drop_zippers⟩
def d__law_same : DD := ⟨mkD PySem.Challenge.pw_everystore_k86_whole_fronts_know_what_wa (Str.ofString "_law_same") 43, [(Str.ofString "actual"), (Str.ofString "due")], [(Str.ofString "actual"), (Str.ofString "due"), (Str.ofString "k")], t__law_same⟩
def d_rows_fronts : DD := ⟨mkA PySem.Challenge.pw_everystore_k86_whole_fronts_know_what_wa (Str.ofString "rows_fronts") (Str.ofString "rows") 3, [(Str.ofString "state")], [(Str.ofString "state")], t_rows_fronts⟩
def d_rows_turntrees : DD := ⟨mkA PySem.Challenge.pw_everystore_k86_whole_fronts_know_what_wa (Str.ofString "rows_turntrees") (Str.ofString "rows") 22, [(Str.ofString "state")], [(Str.ofString "state")], t_rows_turntrees⟩
def d_rows_zippers : DD := ⟨mkA PySem.Challenge.pw_everystore_k86_whole_fronts_know_what_wa (Str.ofString "rows_zippers") (Str.ofString "rows") 34, [(Str.ofString "state")], [(Str.ofString "state")], t_rows_zippers⟩
def d__law_pairs : DD := ⟨mkD PySem.Challenge.pw_everystore_k86_whole_fronts_know_what_wa (Str.ofString "_law_pairs") 49, [(Str.ofString "table")], [(Str.ofString "table"), (Str.ofString "key")], t__law_pairs⟩
def d__law_spread : DD := ⟨mkD PySem.Challenge.pw_everystore_k86_whole_fronts_know_what_wa (Str.ofString "_law_spread") 45, [(Str.ofString "cell")], [(Str.ofString "cell"), (Str.ofString "mixed"), (Str.ofString "total"), (Str.ofString "k")], t__law_spread⟩
def d_look : DD := ⟨mkD PySem.Challenge.pw_everystore_k86_whole_fronts_know_what_wa (Str.ofString "look") 5, [(Str.ofString "state"), (Str.ofString "key")], [(Str.ofString "state"), (Str.ofString "key"), (Str.ofString "other"), (Str.ofString "value")], t_look⟩
def d_way_to : DD := ⟨mkD PySem.Challenge.pw_everystore_k86_whole_fronts_know_what_wa (Str.ofString "way_to") 15, [(Str.ofString "state"), (Str.ofString "key")], [(Str.ofString "state"), (Str.ofString "key"), (Str.ofString "found"), (Str.ofString "here"), (Str.ofString "side")], t_way_to⟩
def d_above_two : DD := ⟨mkD PySem.Challenge.pw_everystore_k86_whole_fronts_know_what_wa (Str.ofString "above_two") 25, [(Str.ofString "knot"), (Str.ofString "parent"), (Str.ofString "side"), (Str.ofString "elder"), (Str.ofString "elder_side")], [(Str.ofString "knot"), (Str.ofString "parent"), (Str.ofString "side"), (Str.ofString "elder"), (Str.ofString "elder_side")], t_above_two⟩
def d_above : DD := ⟨mkD PySem.Challenge.pw_everystore_k86_whole_fronts_know_what_wa (Str.ofString "above") 24, [(Str.ofString "knot"), (Str.ofString "parent"), (Str.ofString "side")], [(Str.ofString "knot"), (Str.ofString "parent"), (Str.ofString "side")], t_above⟩
def d_put_plaintrees : DD := ⟨mkA PySem.Challenge.pw_everystore_k86_whole_fronts_know_what_wa (Str.ofString "put_plaintrees") (Str.ofString "put") 17, [(Str.ofString "state"), (Str.ofString "key"), (Str.ofString "value")], [(Str.ofString "state"), (Str.ofString "key"), (Str.ofString "value"), (Str.ofString "way"), (Str.ofString "here"), (Str.ofString "left"), (Str.ofString "right")], t_put_plaintrees⟩
def d_opened : DD := ⟨mkD PySem.Challenge.pw_everystore_k86_whole_fronts_know_what_wa (Str.ofString "opened") 36, [(Str.ofString "state"), (Str.ofString "key")], [(Str.ofString "state"), (Str.ofString "key"), (Str.ofString "left"), (Str.ofString "right")], t_opened⟩
def d_has_key : DD := ⟨mkD PySem.Challenge.pw_everystore_k86_whole_fronts_know_what_wa (Str.ofString "has_key") 37, [(Str.ofString "state"), (Str.ofString "key")], [(Str.ofString "state"), (Str.ofString "key")], t_has_key⟩
def d_tree_rows : DD := ⟨mkD PySem.Challenge.pw_everystore_k86_whole_fronts_know_what_wa (Str.ofString "tree_rows") 12, [(Str.ofString "tree")], [(Str.ofString "tree"), (Str.ofString "found"), (Str.ofString "waiting"), (Str.ofString "here"), (Str.ofString "knot")], t_tree_rows⟩
def d_set_back : DD := ⟨mkD PySem.Challenge.pw_everystore_k86_whole_fronts_know_what_wa (Str.ofString "set_back") 16, [(Str.ofString "way"), (Str.ofString "tree")], [(Str.ofString "way"), (Str.ofString "tree"), (Str.ofString "knot"), (Str.ofString "side")], t_set_back⟩
def d_knot_of : DD := ⟨mkD PySem.Challenge.pw_everystore_k86_whole_fronts_know_what_wa (Str.ofString "knot_of") 13, [(Str.ofString "left"), (Str.ofString "pair"), (Str.ofString "right")], [(Str.ofString "left"), (Str.ofString "pair"), (Str.ofString "right")], t_knot_of⟩
def dtab : List (Nat × DD) := [(Flaw, d_law), (F_law_pool, d__law_pool), (F_law_deeds, d__law_deeds), (Fempty_fronts, d_empty_fronts), (Fempty_turntrees, d_empty_turntrees), (Fempty_zippers, d_empty_zippers), (F_law_draw, d__law_draw), (F_law_after, d__law_after), (F_law_key, d__law_key), (Fmoved_up, d_moved_up), (Fturned_up, d_turned_up), (Fput_fronts, d_put_fronts), (Fput_turntrees, d_put_turntrees), (Fput_zippers, d_put_zippers), (Fdrop_fronts, d_drop_fronts), (Fdrop_turntrees, d_drop_turntrees), (Fdrop_zippers, d_drop_zippers), (F_law_same, d__law_same), (Frows_fronts, d_rows_fronts), (Frows_turntrees, d_rows_turntrees), (Frows_zippers, d_rows_zippers), (F_law_pairs, d__law_pairs), (F_law_spread, d__law_spread), (Flook, d_look), (Fway_to, d_way_to), (Fabove_two, d_above_two), (Fabove, d_above), (Fput_plaintrees, d_put_plaintrees), (Fopened, d_opened), (Fhas_key, d_has_key), (Ftree_rows, d_tree_rows), (Fset_back, d_set_back), (Fknot_of, d_knot_of)]
def G : Gd := ⟨[(Str.ofString "bool"), (Str.ofString "dict"), (Str.ofString "int"), (Str.ofString "isinstance"), (Str.ofString "len"), (Str.ofString "list"), (Str.ofString "range"), (Str.ofString "sorted"), (Str.ofString "str"), (Str.ofString "tuple")], [], [((Str.ofString "law"), Flaw), ((Str.ofString "_law_pool"), F_law_pool), ((Str.ofString "_law_deeds"), F_law_deeds), ((Str.ofString "empty_fronts"), Fempty_fronts), ((Str.ofString "empty_turntrees"), Fempty_turntrees), ((Str.ofString "empty_zippers"), Fempty_zippers), ((Str.ofString "_law_draw"), F_law_draw), ((Str.ofString "_law_after"), F_law_after), ((Str.ofString "_law_key"), F_law_key), ((Str.ofString "moved_up"), Fmoved_up), ((Str.ofString "turned_up"), Fturned_up), ((Str.ofString "put_fronts"), Fput_fronts), ((Str.ofString "put_turntrees"), Fput_turntrees), ((Str.ofString "put_zippers"), Fput_zippers), ((Str.ofString "drop_fronts"), Fdrop_fronts), ((Str.ofString "drop_turntrees"), Fdrop_turntrees), ((Str.ofString "drop_zippers"), Fdrop_zippers), ((Str.ofString "_law_same"), F_law_same), ((Str.ofString "rows_fronts"), Frows_fronts), ((Str.ofString "rows_turntrees"), Frows_turntrees), ((Str.ofString "rows_zippers"), Frows_zippers), ((Str.ofString "_law_pairs"), F_law_pairs), ((Str.ofString "_law_spread"), F_law_spread), ((Str.ofString "look"), Flook), ((Str.ofString "way_to"), Fway_to), ((Str.ofString "above_two"), Fabove_two), ((Str.ofString "above"), Fabove), ((Str.ofString "put_plaintrees"), Fput_plaintrees), ((Str.ofString "opened"), Fopened), ((Str.ofString "has_key"), Fhas_key), ((Str.ofString "tree_rows"), Ftree_rows), ((Str.ofString "set_back"), Fset_back), ((Str.ofString "knot_of"), Fknot_of)]⟩
theorem b_law : d_law.Bind := fun _ _ _ _ _ _ us hl => match us, hl with | [_], _ => rfl
theorem b__law_pool : d__law_pool.Bind := fun _ _ _ _ _ _ us hl => match us, hl with | [_], _ => rfl
theorem b__law_deeds : d__law_deeds.Bind := fun _ _ _ _ _ _ us hl => match us, hl with | [_, _], _ => rfl
theorem b_empty_fronts : d_empty_fronts.Bind := fun _ _ _ _ _ _ us hl => match us, hl with | [], _ => rfl
theorem b_empty_turntrees : d_empty_turntrees.Bind := fun _ _ _ _ _ _ us hl => match us, hl with | [], _ => rfl
theorem b_empty_zippers : d_empty_zippers.Bind := fun _ _ _ _ _ _ us hl => match us, hl with | [], _ => rfl
theorem b__law_draw : d__law_draw.Bind := fun _ _ _ _ _ _ us hl => match us, hl with | [_, _], _ => rfl
theorem b__law_after : d__law_after.Bind := fun _ _ _ _ _ _ us hl => match us, hl with | [_, _], _ => rfl
theorem b__law_key : d__law_key.Bind := fun _ _ _ _ _ _ us hl => match us, hl with | [_], _ => rfl
theorem b_moved_up : d_moved_up.Bind := fun _ _ _ _ _ _ us hl => match us, hl with | [_, _], _ => rfl
theorem b_turned_up : d_turned_up.Bind := fun _ _ _ _ _ _ us hl => match us, hl with | [_, _], _ => rfl
theorem b_put_fronts : d_put_fronts.Bind := fun _ _ _ _ _ _ us hl => match us, hl with | [_, _, _], _ => rfl
theorem b_put_turntrees : d_put_turntrees.Bind := fun _ _ _ _ _ _ us hl => match us, hl with | [_, _, _], _ => rfl
theorem b_put_zippers : d_put_zippers.Bind := fun _ _ _ _ _ _ us hl => match us, hl with | [_, _, _], _ => rfl
theorem b_drop_fronts : d_drop_fronts.Bind := fun _ _ _ _ _ _ us hl => match us, hl with | [_, _], _ => rfl
theorem b_drop_turntrees : d_drop_turntrees.Bind := fun _ _ _ _ _ _ us hl => match us, hl with | [_, _], _ => rfl
theorem b_drop_zippers : d_drop_zippers.Bind := fun _ _ _ _ _ _ us hl => match us, hl with | [_, _], _ => rfl
theorem b__law_same : d__law_same.Bind := fun _ _ _ _ _ _ us hl => match us, hl with | [_, _], _ => rfl
theorem b_rows_fronts : d_rows_fronts.Bind := fun _ _ _ _ _ _ us hl => match us, hl with | [_], _ => rfl
theorem b_rows_turntrees : d_rows_turntrees.Bind := fun _ _ _ _ _ _ us hl => match us, hl with | [_], _ => rfl
theorem b_rows_zippers : d_rows_zippers.Bind := fun _ _ _ _ _ _ us hl => match us, hl with | [_], _ => rfl
theorem b__law_pairs : d__law_pairs.Bind := fun _ _ _ _ _ _ us hl => match us, hl with | [_], _ => rfl
theorem b__law_spread : d__law_spread.Bind := fun _ _ _ _ _ _ us hl => match us, hl with | [_], _ => rfl
theorem b_look : d_look.Bind := fun _ _ _ _ _ _ us hl => match us, hl with | [_, _], _ => rfl
theorem b_way_to : d_way_to.Bind := fun _ _ _ _ _ _ us hl => match us, hl with | [_, _], _ => rfl
theorem b_above_two : d_above_two.Bind := fun _ _ _ _ _ _ us hl => match us, hl with | [_, _, _, _, _], _ => rfl
theorem b_above : d_above.Bind := fun _ _ _ _ _ _ us hl => match us, hl with | [_, _, _], _ => rfl
theorem b_put_plaintrees : d_put_plaintrees.Bind := fun _ _ _ _ _ _ us hl => match us, hl with | [_, _, _], _ => rfl
theorem b_opened : d_opened.Bind := fun _ _ _ _ _ _ us hl => match us, hl with | [_, _], _ => rfl
theorem b_has_key : d_has_key.Bind := fun _ _ _ _ _ _ us hl => match us, hl with | [_, _], _ => rfl
theorem b_tree_rows : d_tree_rows.Bind := fun _ _ _ _ _ _ us hl => match us, hl with | [_], _ => rfl
theorem b_set_back : d_set_back.Bind := fun _ _ _ _ _ _ us hl => match us, hl with | [_, _], _ => rfl
theorem b_knot_of : d_knot_of.Bind := fun _ _ _ _ _ _ us hl => match us, hl with | [_, _, _], _ => rfl
theorem all_bind : ∀ p ∈ dtab, p.2.Bind := by
  intro p hp
  simp only [dtab, List.mem_cons, List.not_mem_nil, or_false] at hp
  rcases hp with rfl | rfl | rfl | rfl | rfl | rfl | rfl | rfl | rfl | rfl | rfl | rfl | rfl | rfl | rfl | rfl | rfl | rfl | rfl | rfl | rfl | rfl | rfl | rfl | rfl | rfl | rfl | rfl | rfl | rfl | rfl | rfl | rfl
  · exact b_law
  · exact b__law_pool
  · exact b__law_deeds
  · exact b_empty_fronts
  · exact b_empty_turntrees
  · exact b_empty_zippers
  · exact b__law_draw
  · exact b__law_after
  · exact b__law_key
  · exact b_moved_up
  · exact b_turned_up
  · exact b_put_fronts
  · exact b_put_turntrees
  · exact b_put_zippers
  · exact b_drop_fronts
  · exact b_drop_turntrees
  · exact b_drop_zippers
  · exact b__law_same
  · exact b_rows_fronts
  · exact b_rows_turntrees
  · exact b_rows_zippers
  · exact b__law_pairs
  · exact b__law_spread
  · exact b_look
  · exact b_way_to
  · exact b_above_two
  · exact b_above
  · exact b_put_plaintrees
  · exact b_opened
  · exact b_has_key
  · exact b_tree_rows
  · exact b_set_back
  · exact b_knot_of
theorem all_T : ∀ p ∈ dtab, T p.1 = some p.2.f := by
  intro p hp
  simp only [dtab, List.mem_cons, List.not_mem_nil, or_false] at hp
  rcases hp with rfl | rfl | rfl | rfl | rfl | rfl | rfl | rfl | rfl | rfl | rfl | rfl | rfl | rfl | rfl | rfl | rfl | rfl | rfl | rfl | rfl | rfl | rfl | rfl | rfl | rfl | rfl | rfl | rfl | rfl | rfl | rfl | rfl <;> rfl
theorem all_at : ∀ p ∈ dtab, p.2.dd.at_.2 = none ∧ p.2.dd.dfl = [] ∧ p.2.dd.kwd = [] := by
  intro p hp
  simp only [dtab, List.mem_cons, List.not_mem_nil, or_false] at hp
  rcases hp with rfl | rfl | rfl | rfl | rfl | rfl | rfl | rfl | rfl | rfl | rfl | rfl | rfl | rfl | rfl | rfl | rfl | rfl | rfl | rfl | rfl | rfl | rfl | rfl | rfl | rfl | rfl | rfl | rfl | rfl | rfl | rfl | rfl <;> exact ⟨rfl, rfl, rfl⟩
theorem all_ck : dtab.all (fun p => p.2.ck G) = true := by decide +kernel
theorem all_fns : G.fns = dtab.map fun p => (p.2.dd.at_.1, p.1) := rfl
def loose0 : List PySem.Str := [(Str.ofString "empty"), (Str.ofString "empty_fronts"), (Str.ofString "rows"), (Str.ofString "rows_fronts"), (Str.ofString "look"), (Str.ofString "put"), (Str.ofString "put_fronts"), (Str.ofString "drop"), (Str.ofString "drop_fronts"), (Str.ofString "moved_up"), (Str.ofString "tree_rows"), (Str.ofString "knot_of"), (Str.ofString "way_to"), (Str.ofString "set_back"), (Str.ofString "put_plaintrees"), (Str.ofString "empty_turntrees"), (Str.ofString "rows_turntrees"), (Str.ofString "above"), (Str.ofString "above_two"), (Str.ofString "turned_up"), (Str.ofString "put_turntrees"), (Str.ofString "drop_turntrees"), (Str.ofString "empty_zippers"), (Str.ofString "rows_zippers"), (Str.ofString "opened"), (Str.ofString "has_key"), (Str.ofString "put_zippers"), (Str.ofString "drop_zippers"), (Str.ofString "_law_same"), (Str.ofString "_law_pool"), (Str.ofString "_law_spread"), (Str.ofString "_law_draw"), (Str.ofString "_law_key"), (Str.ofString "_law_deeds"), (Str.ofString "_law_pairs")]
def loose1 : List PySem.Str := [(Str.ofString "_law_after")]
def loose : List PySem.Str := loose0 ++ loose1
abbrev R : PySem.W.OpenRow := PySem.W.OpenLaw.row PySem.Challenge.rw_everystore_k86_whole_fronts_know_what_wa
abbrev hk : PySem.W.Hook := hookC 4 (faOf dtab G) (fnOf' dtab) G.con
def ob (s : PySem.W.SharedT) : AlC := obC 4 (faOf dtab G) (fnOf' dtab) G.con (HandSHeadRun.getT s)
theorem ob_eq (s : PySem.W.SharedT) : ob s = hk.obs s.abs := obC_eq (HandSHeadRun.getT_eq s)
theorem hrun (w : World) : HandSHeadRun.RunEq R (PySem.W.view R.prog [51]) hk ob 6000 loose w := by
  intro os
  kernel_rfl
end
end Law
open PySem PySem.W PySem.Calls PyProof.Rows in
theorem PySem.Challenge.cw_everystore_k86_whole_fronts_know_what_wa_holds : PySem.Challenge.rw_everystore_k86_whole_fronts_know_what_wa.Holds := by
  w_on; o_law
  refine HandSHeadRun.head_any (r := OpenLaw.row PySem.Challenge.rw_everystore_k86_whole_fronts_know_what_wa) (q := view (OpenLaw.row PySem.Challenge.rw_everystore_k86_whole_fronts_know_what_wa).prog [51]) (H := Law.hk) (ob := Law.ob) (M := 6000) (loose := Law.loose) (d := HandSHeadRun.topDef (OpenLaw.row PySem.Challenge.rw_everystore_k86_whole_fronts_know_what_wa).prog 51) (kwd := []) Law.ob_eq
    (by kernel_rfl) (fun s => by kernel_rfl) Law.hrun (by kernel_rfl) (by kernel_rfl) (by kernel_rfl) (by rfl) (by first | assumption | decide +kernel) (by decide +kernel) ⟨rfl, rfl, rfl, rfl, rfl, by decide +kernel⟩ ?hw ?hc
  case hw => w_witness2
  case hc =>
    exact Rf.law_of (l := PySem.Challenge.rw_everystore_k86_whole_fronts_know_what_wa) (n := 63) (k := 200) (i := Law.Flaw) (T := Law.T) (G := Law.G) (tab := Law.dtab) (dl := Law.d_law) rfl (by decide) (by kernel_rfl) ⟨rfl, by decide, by decide⟩ Law.all_T Law.all_bind Law.all_ck Law.all_at Law.all_fns (List.mem_cons_self ..) rfl (by kernel_rfl) Law.law_runs

