import PyProof.Rows.All
import Wide.All
import OpenK.AllK
import Wide.FinOn
import HandS.ForMost
import HandS.ForExc
import HandS.IsInst
import HandS.Flow
import HandS.Lambda
import HandS.TryMany
import HandS.AnyAll
import HandS.EndTab
import HandS.Walk
import HandS.TupAny
import KE.GoesMore
import KE.GoesZip
import KE.GoesEnum
import HandS.GenList
import KE.KSuper
import KE.KExcSuper
import HandS.FStr
import HandS.ExcInit
import KE.KExcIs
import HandS.ExcIs
import HandS.ExcField
import HandS.Style
import HandS.Text
import HandS.More
import PyProof.Rows.StrCountLaw
import HandS.Codes
import HandS.RaiseMore
import HandS.Replace
import PySem.Challenge.RW_crossfills_k16_clue_texts
import KE.KNestM
import PySem.Builtin.Int.Common
/-! CfA: data, results and combinators of the mirrors; plain Lean. -/
namespace Cf

/-- the greatest length of a text or a list that a mirror makes -/
abbrev LIM : Nat := 16000000

inductive D where
  | non
  | bl (b : Bool)
  | int (i : Int)
  | str (s : List Nat)
  | tup (xs : List D)
  | lst (xs : List D)
  | dct (ks vs : List D)
  | obj (c : String) (ns : List String) (vs : List D)
  | ref (n : Nat)
deriving Inhabited

/-- what stands in the small heap -/
inductive O where
  | lst (xs : List D)
  | ins (c : String) (ns : List String) (vs : List D)
deriving Inhabited

inductive R (α : Type) where
  | ok (a : α) (h : List O)
  | er (c : String) (vs : List D) (h : List O)
  | no

def M (α : Type) := List O → R α

def R.next {α β : Type} (r : R α) (f : α → M β) : R β :=
  match r with
  | .ok a h => f a h
  | .er c vs h => .er c vs h
  | .no => .no
instance : Monad M where
  pure a := fun h => .ok a h
  bind m f := fun h => (m h).next f

def no {α : Type} : M α := fun _ => .no
def ret {α : Type} (a : α) : M α := fun h => .ok a h
/-- nothing is raised within -/
def noer {α : Type} (m : M α) : M α := fun h => match m h with
  | .er _ _ _ => .no
  | r => r
def ofOpt {α : Type} : Option α → M α
  | some a => ret a
  | none => no
def guardM (b : Bool) : M Unit := if b = true then ret () else no

/-- a written text -/
def cps (x : String) : List Nat := x.toList.map Char.toNat

inductive Sl where
  | no
  | val (d : D)
  | own (d : D)
deriving Inhabited

abbrev S := List Sl
abbrev E := S → M D
abbrev T := S → M Bool
abbrev I := S → M (List D)

/-! ### equality of data, as Python's == has it -/
def b2i (b : Bool) : Int := if b = true then 1 else 0
mutual
def deq : D → D → Bool
  | .non, .non => true
  | .bl a, .bl b => a == b
  | .bl a, .int b => b2i a == b
  | .int a, .bl b => a == b2i b
  | .int a, .int b => a == b
  | .str a, .str b => a == b
  | .tup a, .tup b => deqs a b
  | .lst a, .lst b => deqs a b
  | _, _ => false
def deqs : List D → List D → Bool
  | [], [] => true
  | x :: xs, y :: ys => deq x y && deqs xs ys
  | _, _ => false
end
/-! data that == can be asked of -/
mutual
def plain : D → Bool
  | .non | .bl _ | .int _ | .str _ => true
  | .tup xs => plains xs
  | .lst xs => plains xs
  | .dct _ _ | .obj _ _ _ | .ref _ => false
def plains : List D → Bool
  | [] => true
  | x :: xs => plain x && plains xs
end
/-! how deep it is -/
mutual
def deep : D → Nat
  | .tup xs => deeps xs + 1
  | .lst xs => deeps xs + 1
  | .non | .bl _ | .int _ | .str _ | .dct _ _ | .obj _ _ _ | .ref _ => 0
def deeps : List D → Nat
  | [] => 0
  | x :: xs => max (deep x) (deeps xs)
end
/-- no list, no tuple -/
def flat : D → Bool
  | .non | .bl _ | .int _ | .str _ => true
  | _ => false

/-! ### values -/
def pAdd : D → D → M D
  | .int a, .int b => ret (.int (a + b))
  | .str a, .str b => if a.length + b.length ≤ LIM then ret (.str (a ++ b)) else no
  | .tup a, .tup b => if a.length + b.length ≤ LIM then ret (.tup (a ++ b)) else no
  | .lst a, .lst b => if a.length + b.length ≤ LIM then ret (.lst (a ++ b)) else no
  | _, _ => no
def pSub : D → D → M D
  | .int a, .int b => ret (.int (a - b))
  | _, _ => no
def pMul : D → D → M D
  | .int a, .int b => if (-(2 ^ 64) < a ∧ a < 2 ^ 64) ∨ (-(2 ^ 64) < b ∧ b < 2 ^ 64) then ret (.int (a * b)) else no
  | _, _ => no
def pMod : D → D → M D
  | .int a, .int b => if 0 < b ∧ b < 1073741824 * 2 then ret (.int (a % b)) else no
  | _, _ => no
def pFDiv : D → D → M D
  | .int a, .int b => if 0 < b ∧ b < 1073741824 then ret (.int (a / b)) else no
  | _, _ => no
def pPow : D → D → M D
  | .int a, .int b => if 0 ≤ b ∧ b ≤ 1000000 ∧ a.natAbs < 2 ^ 64 then ret (.int (a ^ b.toNat)) else no
  | _, _ => no
def eqable (x : D) : Bool := plain x && decide (deep x ≤ 60)
def pEq : D → D → M D := fun x y => if eqable x = true ∧ eqable y = true then ret (.bl (deq x y)) else no
def pNe : D → D → M D := fun x y => if eqable x = true ∧ eqable y = true then ret (.bl (!deq x y)) else no
def pCmp (f : Int → Int → Bool) (g : List Nat → List Nat → Bool) : D → D → M D
  | .int a, .int b => ret (.bl (f a b))
  | .str a, .str b => ret (.bl (g a b))
  | _, _ => no
def pLt : D → D → M D := pCmp (fun a b => decide (a < b)) (fun a b => decide (a < b))
def pLe : D → D → M D := pCmp (fun a b => decide (a ≤ b)) (fun a b => decide (a ≤ b))
def pGt : D → D → M D := pCmp (fun a b => decide (b < a)) (fun a b => decide (b < a))
def pGe : D → D → M D := pCmp (fun a b => decide (b ≤ a)) (fun a b => decide (b ≤ a))
def isNon : D → Bool
  | .non => true
  | _ => false
def pIsN (x : D) : M D := ret (.bl (isNon x))
def pNotN (x : D) : M D := ret (.bl (!isNon x))
/-- one text in another -/
def subIn (a b : List Nat) : Bool := (List.range (b.length + 1)).any fun i => (b.drop i).take a.length == a
def look (k : D) : List D → List D → Option D
  | x :: xs, v :: vs => if deq x k = true then some v else look k xs vs
  | _, _ => none
def inD : D → D → Option Bool
  | x, .lst ys => if flat x = true ∧ ys.all flat = true then some (ys.any fun y => deq y x) else none
  | x, .tup ys => if flat x = true ∧ ys.all flat = true then some (ys.any fun y => deq y x) else none
  | .str a, .str b => some (subIn a b)
  | k, .dct ks vs => some (look k ks vs).isSome
  | _, _ => none
def pIn (x y : D) : M D := ofOpt ((inD x y).map .bl)
def pNotIn (x y : D) : M D := ofOpt ((inD x y).map fun b => .bl (!b))
/-- an index of any sign -/
def ixOf (n : Nat) (i : Int) : Option Nat :=
  if 0 ≤ i then (if i < n then some i.toNat else none) else if -(n : Int) ≤ i then some (i + n).toNat else none
def getAt {α : Type} (xs : List α) (i : Int) : Option α := (ixOf xs.length i).bind fun j => xs[j]?
/-- the list at a place of the heap -/
def refGet (n : Nat) (f : List D → M D) : M D := fun h => match h[n]? with
  | some (.lst xs) => f xs h
  | _ => .no
def pIdx : D → D → M D
  | .lst xs, .int i => ofOpt (getAt xs i)
  | .tup xs, .int i => ofOpt (getAt xs i)
  | .str s, .int i => ofOpt ((getAt s i).map fun c => .str [c])
  | .dct ks vs, k => ofOpt (look k ks vs)
  | .ref n, .int i => refGet n fun xs => ofOpt (getAt xs i)
  | _, _ => no
def clip (n d : Nat) : Option Int → Nat
  | none => d
  | some v => if v < 0 then (v + (n : Int)).toNat else min v.toNat n
def cut {α : Type} (xs : List α) (lo hi : Option Int) : List α := (xs.drop (clip xs.length 0 lo)).take (clip xs.length xs.length hi - clip xs.length 0 lo)
def pSlice (x : D) (lo hi : Option Int) : M D := match x with
  | .str s => ret (.str (cut s lo hi))
  | .tup xs => ret (.tup (cut xs lo hi))
  | .lst xs => ret (.lst (cut xs lo hi))
  | _ => no
def pRev : D → M D
  | .str s => ret (.str s.reverse)
  | _ => no
def pLen : D → M D
  | .str s => ret (.int s.length)
  | .tup xs => ret (.int xs.length)
  | .lst xs => ret (.int xs.length)
  | .dct ks _ => ret (.int ks.length)
  | .ref n => refGet n fun xs => ret (.int xs.length)
  | _ => no
def truth : D → Option Bool
  | .non => some false
  | .bl b => some b
  | .int i => some (i != 0)
  | .str s => some (!s.isEmpty)
  | .tup xs => some (!xs.isEmpty)
  | .lst xs => some (!xs.isEmpty)
  | _ => none
def pTruth (x : D) : M Bool := ofOpt (truth x)
def pInt : D → M D
  | .int i => ret (.int i)
  | .bl b => ret (.int (b2i b))
  | _ => no
def pTuple : D → M D
  | .tup xs => ret (.tup xs)
  | .lst xs => ret (.tup xs)
  | _ => no
def pList : D → M D
  | .tup xs => ret (.lst xs)
  | .lst xs => ret (.lst xs)
  | _ => no
/-- the built-in classes that isinstance is asked of -/
inductive Ty where
  | int | bool | str | tuple | list | dict | own (c : String)
def isTy : D → Ty → Bool
  | .bl _, .int => true
  | .bl _, .bool => true
  | .int _, .int => true
  | .str _, .str => true
  | .tup _, .tuple => true
  | .lst _, .list => true
  | .dct _ _, .dict => true
  | .obj c _ _, .own k => c == k
  | _, _ => false
def askable : D → Bool
  | .ref _ => false
  | .dct _ _ => false
  | .obj _ _ _ => false
  | _ => true
def pIsi (ts : List Ty) (x : D) : M D := if askable x = true then ret (.bl (ts.any (isTy x))) else no
def strsOf : List D → Option (List (List Nat))
  | [] => some []
  | .str s :: r => (strsOf r).map (s :: ·)
  | _ => none
def joinL (sep : List Nat) : List (List Nat) → List Nat
  | [] => []
  | [x] => x
  | x :: r => x ++ sep ++ joinL sep r
def seqOf : D → Option (List D)
  | .lst xs => some xs
  | .tup xs => some xs
  | _ => none
def pJoin (sep xs : D) : M D := match sep, (seqOf xs).bind strsOf with
  | .str p, some ys => if (ys.map (·.length)).sum + ys.length * p.length ≤ LIM then ret (.str (joinL p ys)) else no
  | _, _ => no
/-- how often a sign stands in a text -/
def pCount (x y : D) : M D := match x, y with
  | .str s, .str [c] => ret (.int (s.count c))
  | _, _ => no
/-- the place of a sign in a text -/
def ixD (c : Nat) : List Nat → Option Nat
  | [] => none
  | x :: r => if x = c then some 0 else (ixD c r).map (· + 1)
def pIndex (x y : D) : M D := match x, y with
  | .str s, .str [c] => ofOpt ((ixD c s).map fun (i : Nat) => D.int (i : Int))
  | _, _ => no
/-- cut at each sign c -/
def splitL (c : Nat) : List Nat → List Nat → List (List Nat)
  | acc, [] => [acc]
  | acc, x :: r => if x = c then acc :: splitL c [] r else splitL c (acc ++ [x]) r
def pSplit (x y : D) : M D := match x, y with
  | .str s, .str [c] => if c < 256 ∧ s.length ≤ LIM then ret (.lst ((splitL c [] s).map .str)) else no
  | _, _ => no
def pStr : D → M D
  | .str s => ret (.str s)
  | .int i => if i.natAbs < 2 ^ 64 then ret (.str (cps (toString i))) else no
  | _ => no
/-- a written dict from texts to numbers: in, not in, an item -/
def pInTab (t : List (List Nat × Int)) : D → M D
  | .str s => ret (.bl (t.lookup s).isSome)
  | _ => no
def pNotInTab (t : List (List Nat × Int)) : D → M D
  | .str s => ret (.bl (!(t.lookup s).isSome))
  | _ => no
def pGetTab (t : List (List Nat × Int)) : D → M D
  | .str s => ofOpt ((t.lookup s).map .int)
  | _ => no

/-! ### expressions -/
def eVar (i : Nat) : E := fun σ h => match σ[i]? with
  | some (.val d) => .ok d h
  | _ => .no
def eC (d : D) : E := fun _ => ret d
def e1 (f : D → M D) (a : E) : E := fun σ => a σ >>= f
def e2 (f : D → D → M D) (a b : E) : E := fun σ => a σ >>= fun x => b σ >>= fun y => f x y
def isStr : D → Bool
  | .str _ => true
  | _ => false
/-- a method of a text -/
def eS2 (f : D → D → M D) (a b : E) : E := fun σ => a σ >>= fun x => if isStr x = true then b σ >>= fun y => f x y else no
def evs : List E → S → M (List D)
  | [], _ => ret []
  | a :: as, σ => a σ >>= fun x => evs as σ >>= fun xs => ret (x :: xs)
def eN (f : List D → M D) (as : List E) : E := fun σ => evs as σ >>= f
def mkTup (xs : List D) : M D := ret (.tup xs)
def mkLst (xs : List D) : M D := ret (.lst xs)
def eTup (as : List E) : E := eN mkTup as
def eLst (as : List E) : E := eN mkLst as
/-- a new list in the heap -/
def eNewRef (as : List E) : E := eN (fun xs h => .ok (.ref h.length) (h ++ [.lst xs])) as
def tOf (a : E) : T := fun σ => a σ >>= pTruth
def tAnd (a b : T) : T := fun σ => a σ >>= fun c => if c = true then b σ else ret false
def tOr (a b : T) : T := fun σ => a σ >>= fun c => if c = true then ret true else b σ
def tNot (a : T) : T := fun σ => a σ >>= fun c => ret (!c)
/-- a test that gives True or False -/
def tBl (a : E) : T := fun σ => a σ >>= fun x => match x with
  | .bl b => ret b
  | _ => no
def eIf (t : T) (a b : E) : E := fun σ => t σ >>= fun c => if c = true then a σ else b σ
def eAnd (a b : E) : E := fun σ => a σ >>= fun x => pTruth x >>= fun c => if c = true then b σ else ret x
def eOr (a b : E) : E := fun σ => a σ >>= fun x => pTruth x >>= fun c => if c = true then ret x else b σ
def eNot (a : E) : E := fun σ => a σ >>= fun x => pTruth x >>= fun c => ret (.bl (!c))
/-- a op b op' c -/
def eChain (f g : D → D → M D) (a b c : E) : E := fun σ => a σ >>= fun x => b σ >>= fun y => f x y >>= fun z => match z with
  | .bl true => c σ >>= fun w => g y w
  | .bl false => ret (.bl false)
  | _ => no
def optInt : Option E → S → M (Option Int)
  | none, _ => ret none
  | some a, σ => a σ >>= fun x => match x with
    | .int i => ret (some i)
    | _ => no
def eSlice (a : E) (lo hi : Option E) : E := fun σ => a σ >>= fun x => optInt lo σ >>= fun l => optInt hi σ >>= fun u => pSlice x l u

/-! ### what is walked -/
def signs (s : List Nat) : List D := s.map fun c => .str [c]
def itemsOf : D → Option (List D)
  | .lst xs => some xs
  | .tup xs => some xs
  | .str s => some (signs s)
  | _ => none
def iOf (a : E) : I := fun σ => a σ >>= fun x => ofOpt (itemsOf x)
def small (i : Int) : Bool := decide (-(2 ^ 62) ≤ i) && decide (i < 2 ^ 62)
def rangeD (lo hi : Int) : List D := (List.range (hi - lo).toNat).map fun (k : Nat) => .int (lo + (k : Int))
def iRange1 (a : E) : I := fun σ => a σ >>= fun x => match x with
  | .int i => if small i = true then ret (rangeD 0 i) else no
  | _ => no
def iRange2 (a b : E) : I := fun σ => a σ >>= fun x => b σ >>= fun y => match x, y with
  | .int i, .int j => if small i = true ∧ small j = true then ret (rangeD i j) else no
  | _, _ => no
def zipD : List D → List D → List D
  | x :: xs, y :: ys => .tup [x, y] :: zipD xs ys
  | _, _ => []
def iZip (a b : E) : I := fun σ => a σ >>= fun x => b σ >>= fun y => match itemsOf x, itemsOf y with
  | some xs, some ys => ret (zipD xs ys)
  | _, _ => no
def enumD (k : Nat) : List D → List D
  | [] => []
  | x :: xs => .tup [.int k, x] :: enumD (k + 1) xs
def iEnum (a : E) : I := fun σ => a σ >>= fun x => match itemsOf x with
  | some xs => ret (enumD 0 xs)
  | _ => no

/-! ### targets -/
abbrev G := D → S → Option S
def gVar (i : Nat) : G := fun d σ => some (σ.set i (.val d))
def gsGo : List G → List D → S → Option S
  | [], [], σ => some σ
  | g :: gs, d :: ds, σ => (g d σ).bind fun σ' => gsGo gs ds σ'
  | _, _, _ => none
def gTup (gs : List G) : G := fun d σ => match d with
  | .tup ds => gsGo gs ds σ
  | _ => none

/-! ### comprehensions, all, any -/
def wipe (σ : S) : List Nat → S
  | [] => σ
  | v :: vs => (wipe σ vs).set v .no
def tYes : T := fun _ => ret true
def compGo (g : G) (t : T) (e : E) (σ : S) : List D → M (List D)
  | [] => ret []
  | d :: ds => match g d σ with
    | none => no
    | some σ1 => t σ1 >>= fun b => if b = true then e σ1 >>= fun y => compGo g t e σ ds >>= fun ys => ret (y :: ys) else compGo g t e σ ds
def comp (it : I) (g : G) (t : T) (e : E) (vs : List Nat) : S → M (List D) := fun σ => it σ >>= fun ds => noer (compGo g t e (wipe σ vs) ds) >>= fun ys => if ys.length ≤ LIM then ret ys else no
def eComp (it : I) (g : G) (t : T) (e : E) (vs : List Nat) : E := fun σ => comp it g t e vs σ >>= fun ys => ret (.lst ys)
def allGo (g : G) (t : T) (σ : S) : List D → M Bool
  | [] => ret true
  | d :: ds => match g d σ with
    | none => no
    | some σ1 => t σ1 >>= fun b => if b = true then allGo g t σ ds else ret false
def anyGo (g : G) (t : T) (σ : S) : List D → M Bool
  | [] => ret false
  | d :: ds => match g d σ with
    | none => no
    | some σ1 => t σ1 >>= fun b => if b = true then ret true else anyGo g t σ ds
def eAll (it : I) (g : G) (t : T) (vs : List Nat) : E := fun σ => it σ >>= fun ds => noer (allGo g t (wipe σ vs) ds) >>= fun b => ret (.bl b)
def eAny (it : I) (g : G) (t : T) (vs : List Nat) : E := fun σ => it σ >>= fun ds => noer (anyGo g t (wipe σ vs) ds) >>= fun b => ret (.bl b)

/-! ### statements -/
inductive RS where
  | nx (σ : S) (h : List O)
  | rt (d : D) (h : List O)
  | bk (σ : S) (h : List O)
  | ct (σ : S) (h : List O)
  | er (c : String) (vs : List D) (h : List O)
  | no
abbrev Ms := S → List O → RS
def R.stmt {α : Type} (r : R α) (f : α → List O → RS) : RS := match r with
  | .ok a h => f a h
  | .er c vs h => .er c vs h
  | .no => .no
def sPass : Ms := fun σ h => .nx σ h
def sSeq (a b : Ms) : Ms := fun σ h => match a σ h with
  | .nx σ' h' => b σ' h'
  | r => r
def sRet (e : E) : Ms := fun σ h => (e σ h).stmt .rt
def sExpr (e : E) : Ms := fun σ h => (e σ h).stmt fun _ h' => .nx σ h'
def sSet (i : Nat) (e : E) : Ms := fun σ h => (e σ h).stmt fun d h' => .nx (σ.set i (.val d)) h'
def sPar (i j : Nat) (a b : E) : Ms := fun σ h => (evs [a, b] σ h).stmt fun ds h' => match ds with
  | [x, y] => .nx ((σ.set i (.val x)).set j (.val y)) h'
  | _ => .no
/-- a target of any kind -/
def sAsg (e : E) (g : G) : Ms := fun σ h => (e σ h).stmt fun d h' => match g d σ with
  | some σ' => .nx σ' h'
  | none => .no
def sIf (t : T) (a b : Ms) : Ms := fun σ h => (t σ h).stmt fun c h' => if c = true then a σ h' else b σ h'
/-- lists that grow: made, one more, some more; from here on it stands for good -/
def ownAt (σ : S) (i : Nat) : Option (List D) := match σ[i]? with
  | some (.own (.lst ds)) => some ds
  | _ => none
def sOwn (i : Nat) (es : List E) : Ms := fun σ h => (evs es σ h).stmt fun ds h' => .nx (σ.set i (.own (.lst ds))) h'
def sApp (i : Nat) (e : E) : Ms := fun σ h => match ownAt σ i with
  | some ds => (e σ h).stmt fun d h' => if ds.length < LIM then .nx (σ.set i (.own (.lst (ds ++ [d])))) h' else .no
  | none => .no
def sExt (i : Nat) (e : E) : Ms := fun σ h => match ownAt σ i with
  | some ds => (e σ h).stmt fun d h' => match d with
    | .lst es => if ds.length + es.length ≤ LIM then .nx (σ.set i (.own (.lst (ds ++ es)))) h' else .no
    | _ => .no
  | none => .no
def sFrz (i : Nat) (m : Ms) : Ms := fun σ h => match ownAt σ i with
  | some ds => m (σ.set i (.val (.lst ds))) h
  | none => .no
def sBreak : Ms := fun σ h => .bk σ h
def sCont : Ms := fun σ h => .ct σ h
def forGo (g : G) (b : Ms) : List D → Ms
  | [], σ, h => .nx σ h
  | d :: ds, σ, h => match g d σ with
    | none => .no
    | some σ1 => match b σ1 h with
      | .nx σ2 h2 => forGo g b ds σ2 h2
      | .ct σ2 h2 => forGo g b ds σ2 h2
      | .bk σ2 h2 => .nx σ2 h2
      | r => r
def sFor (it : I) (g : G) (b : Ms) : Ms := fun σ h => (it σ h).stmt fun ds h' => forGo g b ds σ h'
/-- x[i] = e, x in the heap -/
def setRef (x i v : D) : List O → Option (List O) := fun h => match x, i with
  | .ref n, .int k => match h[n]? with
    | some (.lst xs) => (ixOf xs.length k).map fun j => h.set n (.lst (xs.set j v))
    | _ => none
  | _, _ => none
def sSetItem (x i e : E) : Ms := fun σ h => (e σ h).stmt fun v h1 => (x σ h1).stmt fun o h2 => (i σ h2).stmt fun k h3 => match setRef o k v h3 with
  | some h4 => .nx σ h4
  | none => .no
/-- raise C(e, ..) -/
def exOk1 : D → Bool
  | .str s => decide (s.length ≤ 1000000)
  | _ => false
def exOk (ds : List D) : Bool := !ds.isEmpty && ds.all exOk1
def sRaise (c : String) (es : List E) : Ms := fun σ h => (evs es σ h).stmt fun vs h' => if exOk vs = true then .er c vs h' else .no

/-- a def's body: n slots, k parameters -/
def run (n k : Nat) (b : Ms) (ds : List D) : M D := fun h => if ds.length = k then
  match b (ds.map .val ++ List.replicate (n - k) .no) h with
  | .nx _ h' => .ok .non h'
  | .rt d h' => .ok d h'
  | .er c vs h' => .er c vs h'
  | _ => .no
  else .no

/-! ### what a call raised -/
def heardAs : String → List D → Option D
  | "BadArgument", [v] => some (.tup [.str (cps "bad"), v, .bl true])
  | _, _ => none
def eHeard (e : E) : E := fun σ h => match e σ h with
  | .ok _ h' => .ok (.tup []) h'
  | .er c vs h' => match heardAs c vs with
    | some d => .ok d h'
    | none => .no
  | .no => .no
end Cf
set_option Elab.async false
set_option linter.all false
set_option maxRecDepth 100000
set_option maxHeartbeats 2000000
/-! CfB: how data lies in the abstract heap; readings by mirrors. -/
namespace Cf
open PySem L2

structure Gd where
  cl : String → Option Addr
  T : List (Addr × Str)

structure Wd where
  K : PySem.W.Frag
  gd : Gd
  ρ : List Addr
  H : Hp
  N : Addr → Prop

def NoTbl (o : HO) : Prop := ∀ ps, o ≠ .tbl ps
def Frz (w : Wd) (a : Addr) : Prop := ¬ w.N a ∧ a ∉ w.ρ
def sv (s : List Nat) : V := .str ⟨s.toArray⟩
/-- a tuple, a list that stands for good: tracked and not to be written, or of the written part -/
def TupAt (w : Wd) (a : Addr) (xs : List V) : Prop := (Rd w.H a (.tup xs) ∧ Frz w a) ∨ SqT w.K (fun _ => none) a xs
def LstAt (w : Wd) (a : Addr) (xs : List V) : Prop := (Rd w.H a (.lst xs) ∧ Frz w a) ∨ SqL w.K (fun _ => none) a xs
theorem TupAt.sq {w : Wd} {a : Addr} {xs : List V} (h : TupAt w a xs) : SqT w.K w.H a xs := by
  rcases h with h | (h | h) | h
  · exact .inl h.1
  · cases h
  · obtain ⟨_, h⟩ := h; cases h
  · exact .inr h
theorem LstAt.sq {w : Wd} {a : Addr} {xs : List V} (h : LstAt w a xs) : SqL w.K w.H a xs := by
  rcases h with h | (h | h) | h
  · exact .inl h.1
  · cases h
  · obtain ⟨_, h⟩ := h; cases h
  · exact .inr h

structure SOk (s : List Nat) : Prop where
  len : s.length ≤ sizeLine
  ok : ∀ c ∈ s, c < 1114112
mutual
def Rep (w : Wd) : D → V → Prop
  | .non, v => v = .non
  | .bl b, v => v = .bl b
  | .int i, v => v = .int i
  | .str s, v => v = sv s ∧ SOk s
  | .tup ds, v => ∃ a xs, v = .ref a ∧ TupAt w a xs ∧ Reps w ds xs
  | .lst ds, v => ∃ a xs, v = .ref a ∧ LstAt w a xs ∧ Reps w ds xs
  | .dct _ _, _ => False
  | .obj c ns vs, v => ∃ a C dx fs, v = .ref a ∧ w.gd.cl c = some C ∧ w.H a = some (.ins C dx fs) ∧ Frz w a ∧ fs.map (·.1) = ns.map Str.ofString ∧ Reps w vs (fs.map (·.2))
  | .ref n, v => ∃ a, w.ρ[n]? = some a ∧ v = .ref a
def Reps (w : Wd) : List D → List V → Prop
  | [], xs => xs = []
  | d :: ds, xs => ∃ x r, xs = x :: r ∧ Rep w d x ∧ Reps w ds r
end

theorem Reps.length {w : Wd} : ∀ {ds : List D} {xs : List V}, Reps w ds xs → xs.length = ds.length
  | [], _, h => by rw [Reps] at h; rw [h]; rfl
  | d :: ds, _, h => by
    rw [Reps] at h
    obtain ⟨x, r, rfl, _, h2⟩ := h
    rw [List.length_cons, List.length_cons, Reps.length h2]
theorem Reps.nil {w : Wd} : Reps w [] [] := by rw [Reps]
theorem Reps.cons {w : Wd} {d : D} {ds : List D} {x : V} {xs : List V} (h : Rep w d x) (t : Reps w ds xs) : Reps w (d :: ds) (x :: xs) := by
  rw [Reps]; exact ⟨x, xs, rfl, h, t⟩
theorem Reps.get {w : Wd} : ∀ {ds : List D} {xs : List V} {i : Nat} {d : D}, Reps w ds xs → ds[i]? = some d → ∃ x, xs[i]? = some x ∧ Rep w d x
  | [], _, _, _, _, e => by simp at e
  | d :: ds, _, 0, _, h, e => by
    rw [Reps] at h
    obtain ⟨x, r, rfl, h1, _⟩ := h
    cases e
    exact ⟨x, rfl, h1⟩
  | d :: ds, _, i + 1, _, h, e => by
    rw [Reps] at h
    obtain ⟨x, r, rfl, _, h2⟩ := h
    obtain ⟨y, e1, e2⟩ := Reps.get (i := i) h2 (by simpa using e)
    exact ⟨y, by simpa using e1, e2⟩
theorem Reps.append {w : Wd} : ∀ {ds es : List D} {xs ys : List V}, Reps w ds xs → Reps w es ys → Reps w (ds ++ es) (xs ++ ys)
  | [], _, _, _, h, t => by rw [Reps] at h; subst h; exact t
  | d :: ds, _, _, _, h, t => by
    rw [Reps] at h
    obtain ⟨x, r, rfl, h1, h2⟩ := h
    exact .cons h1 (Reps.append h2 t)
theorem Reps.drop {w : Wd} : ∀ {ds : List D} {xs : List V} (n : Nat), Reps w ds xs → Reps w (ds.drop n) (xs.drop n)
  | _, _, 0, h => h
  | [], _, n + 1, h => by rw [Reps] at h; subst h; exact .nil
  | d :: ds, _, n + 1, h => by
    rw [Reps] at h
    obtain ⟨x, r, rfl, _, h2⟩ := h
    exact Reps.drop n h2
theorem Reps.take {w : Wd} : ∀ {ds : List D} {xs : List V} (n : Nat), Reps w ds xs → Reps w (ds.take n) (xs.take n)
  | _, _, 0, _ => .nil
  | [], _, n + 1, h => by rw [Reps] at h; subst h; exact .nil
  | d :: ds, _, n + 1, h => by
    rw [Reps] at h
    obtain ⟨x, r, rfl, h1, h2⟩ := h
    exact .cons h1 (Reps.take n h2)
theorem Reps.set {w : Wd} {d : D} {x : V} (hd : Rep w d x) : ∀ {ds : List D} {xs : List V} (i : Nat), Reps w ds xs → Reps w (ds.set i d) (xs.set i x)
  | [], _, i, h => by rw [Reps] at h; subst h; exact .nil
  | e :: ds, _, 0, h => by
    rw [Reps] at h
    obtain ⟨y, r, rfl, _, h2⟩ := h
    exact .cons hd h2
  | e :: ds, _, i + 1, h => by
    rw [Reps] at h
    obtain ⟨y, r, rfl, h1, h2⟩ := h
    exact .cons h1 (Reps.set hd i h2)
theorem Reps.isEmpty {w : Wd} {ds : List D} {xs : List V} (h : Reps w ds xs) : xs.isEmpty = ds.isEmpty := by
  have e := h.length
  cases ds <;> cases xs <;> simp at e ⊢

/-! ### steps of the heap -/
/-- what is not written stays -/
structure Step (w w' : Wd) : Prop where
  k : w'.K = w.K
  g : w'.gd = w.gd
  pre : w.ρ <+: w'.ρ
  keep : ∀ b o, w.H b = some o → b ∉ w.ρ → ¬ w.N b → NoTbl o → w'.H b = some o ∧ b ∉ w'.ρ ∧ ¬ w'.N b
/-- .. and what is owned neither -/
structure XS (w w' : Wd) : Prop where
  k : w'.K = w.K
  g : w'.gd = w.gd
  n : w'.N = w.N
  pre : w.ρ <+: w'.ρ
  keep : ∀ b o, w.H b = some o → b ∉ w.ρ → NoTbl o → w'.H b = some o ∧ b ∉ w'.ρ
theorem XS.refl (w : Wd) : XS w w := ⟨rfl, rfl, rfl, List.prefix_refl _, fun _ _ e n _ => ⟨e, n⟩⟩
theorem XS.trans {w w1 w2 : Wd} (a : XS w w1) (b : XS w1 w2) : XS w w2 :=
  ⟨b.k.trans a.k, b.g.trans a.g, b.n.trans a.n, a.pre.trans b.pre, fun c o e n t => let ⟨e1, n1⟩ := a.keep c o e n t; b.keep c o e1 n1 t⟩
theorem XS.step {w w' : Wd} (a : XS w w') : Step w w' :=
  ⟨a.k, a.g, a.pre, fun b o e n m t => let ⟨e1, n1⟩ := a.keep b o e n t; ⟨e1, n1, by rw [a.n]; exact m⟩⟩
theorem Step.refl (w : Wd) : Step w w := (XS.refl w).step
theorem Step.trans {w w1 w2 : Wd} (a : Step w w1) (b : Step w1 w2) : Step w w2 :=
  ⟨b.k.trans a.k, b.g.trans a.g, a.pre.trans b.pre, fun c o e n m t => let ⟨e1, n1, m1⟩ := a.keep c o e n m t; b.keep c o e1 n1 m1 t⟩

theorem tup_notbl {xs : List V} : NoTbl (.tup xs) := fun _ z => by cases z
theorem lst_notbl {xs : List V} : NoTbl (.lst xs) := fun _ z => by cases z
theorem frz_notbl {o : Obj} {u : HO} : NoTbl (.frz o u) := fun _ z => by cases z
theorem ins_notbl {C dx : Addr} {fs : List (Str × V)} : NoTbl (.ins C dx fs) := fun _ z => by cases z
theorem dK_notbl {kvs : List (Key × V)} : NoTbl (.dK kvs) := fun _ z => by cases z
theorem rd_step {w w' : Wd} (a : Step w w') {p : Addr} {u : HO} (h : Rd w.H p u) (nu : NoTbl u) (f : Frz w p) : Rd w'.H p u ∧ Frz w' p := by
  rcases h with h | ⟨o, h⟩
  · obtain ⟨e, n, m⟩ := a.keep p u h f.2 f.1 nu
    exact ⟨.inl e, m, n⟩
  · obtain ⟨e, n, m⟩ := a.keep p _ h f.2 f.1 frz_notbl
    exact ⟨.inr ⟨o, e⟩, m, n⟩
theorem TupAt.step {w w' : Wd} (a : Step w w') {p : Addr} {xs : List V} (h : TupAt w p xs) : TupAt w' p xs := by
  rcases h with h | h
  · exact .inl (rd_step a h.1 tup_notbl h.2)
  · exact .inr (by rw [a.k]; exact h)
theorem LstAt.step {w w' : Wd} (a : Step w w') {p : Addr} {xs : List V} (h : LstAt w p xs) : LstAt w' p xs := by
  rcases h with h | h
  · exact .inl (rd_step a h.1 lst_notbl h.2)
  · exact .inr (by rw [a.k]; exact h)
theorem prefix_get {α : Type} {l l' : List α} (h : l <+: l') {i : Nat} {a : α} (e : l[i]? = some a) : l'[i]? = some a := by
  obtain ⟨t, rfl⟩ := h
  have hi : i < l.length := (List.getElem?_eq_some_iff.mp e).1
  rw [List.getElem?_append_left hi]; exact e
mutual
theorem Rep.step {w w' : Wd} (a : Step w w') : ∀ (d : D) (v : V), Rep w d v → Rep w' d v
  | .non, v, h => by rw [Rep] at h ⊢; exact h
  | .bl b, v, h => by rw [Rep] at h ⊢; exact h
  | .int i, v, h => by rw [Rep] at h ⊢; exact h
  | .str s, v, h => by rw [Rep] at h ⊢; exact h
  | .tup ds, v, h => by
    rw [Rep] at h ⊢
    obtain ⟨p, xs, e, t, r⟩ := h
    exact ⟨p, xs, e, t.step a, Reps.step a ds xs r⟩
  | .lst ds, v, h => by
    rw [Rep] at h ⊢
    obtain ⟨p, xs, e, t, r⟩ := h
    exact ⟨p, xs, e, t.step a, Reps.step a ds xs r⟩
  | .dct _ _, v, h => by rw [Rep] at h; exact h.elim
  | .obj c ns vs, v, h => by
    rw [Rep] at h ⊢
    obtain ⟨p, C, dx, fs, e, g, t, f, en, r⟩ := h
    obtain ⟨e2, n2, m2⟩ := a.keep p _ t f.2 f.1 ins_notbl
    exact ⟨p, C, dx, fs, e, by rw [a.g]; exact g, e2, ⟨m2, n2⟩, en, Reps.step a vs _ r⟩
  | .ref n, v, h => by
    rw [Rep] at h ⊢
    obtain ⟨p, e, r⟩ := h
    exact ⟨p, prefix_get a.pre e, r⟩
theorem Reps.step {w w' : Wd} (a : Step w w') : ∀ (ds : List D) (xs : List V), Reps w ds xs → Reps w' ds xs
  | [], xs, h => by rw [Reps] at h ⊢; exact h
  | d :: ds, xs, h => by
    rw [Reps] at h ⊢
    obtain ⟨x, r, e, h1, h2⟩ := h
    exact ⟨x, r, e, Rep.step a d x h1, Reps.step a ds r h2⟩
end

/-! ### the small heap, the slots -/
def ORep (w : Wd) (a : Addr) : O → Prop
  | .lst ds => ∃ xs, w.H a = some (.lst xs) ∧ Reps w ds xs
  | .ins c ns vs => ∃ C dx fs, w.gd.cl c = some C ∧ w.H a = some (.ins C dx fs) ∧ fs.map (·.1) = ns.map Str.ofString ∧ Reps w vs (fs.map (·.2))
structure RelH (w : Wd) (h : List O) : Prop where
  len : w.ρ.length = h.length
  nd : w.ρ.Nodup
  obj : ∀ (i : Nat) (o : O) (a : Addr), h[i]? = some o → w.ρ[i]? = some a → ORep w a o
  own : ∀ b, w.N b → (∃ o, w.H b = some o ∧ NoTbl o) ∧ b ∉ w.ρ
  tT : LamX.Tabs w.gd.T w.H
/-- owned: a list whose items stand for good; its address is told -/
inductive Own (w : Wd) : D → V → List Addr → Prop where
  | lst {ds : List D} {a : Addr} {xs : List V} (h : w.H a = some (.lst xs)) (n : w.N a) (r : Reps w ds xs) : Own w (.lst ds) (.ref a) [a]
/-- the slots, for an expression -/
structure SlE (w : Wd) (σ : L2.St) (aσ : S) : Prop where
  len : σ.length = aσ.length
  val : ∀ (i : Nat) (d : D), aσ[i]? = some (.val d) → ∃ v, σ[i]? = some (some v) ∧ Rep w d v
  own : ∀ (i : Nat) (d : D), aσ[i]? = some (.own d) → ∃ v t, σ[i]? = some (some v) ∧ Own w d v t
theorem Own.xs {w w' : Wd} (a : XS w w') (ow : ∀ b, w.N b → (∃ o, w.H b = some o ∧ NoTbl o) ∧ b ∉ w.ρ) {d : D} {v : V} {t : List Addr} (h : Own w d v t) : Own w' d v t := by
  cases h with
  | lst h n r => exact .lst (a.keep _ _ h (ow _ n).2 lst_notbl).1 (by rw [a.n]; exact n) (Reps.step a.step _ _ r)
theorem SlE.xs {w w' : Wd} {h : List O} {σ : L2.St} {aσ : S} (s : SlE w σ aσ) (a : XS w w') (r : RelH w h) : SlE w' σ aσ :=
  ⟨s.len, fun i d e => let ⟨v, e1, e2⟩ := s.val i d e; ⟨v, e1, Rep.step a.step _ _ e2⟩, fun i d e => let ⟨v, t, e1, e2⟩ := s.own i d e; ⟨v, t, e1, e2.xs a r.own⟩⟩

/-! ### what a result asks -/
/-- the own dict of an exception of the class c -/
def XdRep (w : Wd) (dx : Addr) (ns : List Str) (vs : List D) : Prop := ∃ fs : List (Str × V), w.H dx = some (.xd fs) ∧ fs.map (·.1) = ns ∧ Reps w vs (fs.map (·.2))
def exFields (c : String) : List Str :=
  if c = "BadArgument" then ["name"] else if c = "Unfilled" then ["part"] else if c = "Refused" then ["why"] else if c = "Unread" then ["why", "line"] else if c = "NoLine" then ["why"] else []
def Out {α : Type} (w : Wd) (X : XK) (r : R α) (P : α → List O → Wd → Prop) : Prop := match r with
  | .ok a h => ∀ w', XS w w' → RelH w' h → P a h w'
  | .er c vs h => ∀ w' C dx, XS w w' → RelH w' h → w.gd.cl c = some C → XdRep w' dx (exFields c) vs → X (.ref C) (some dx) w'.H
  | .no => False
theorem Out.bind {α β : Type} {w : Wd} {X : XK} {r : R α} {k : α → M β} {P : β → List O → Wd → Prop} (h : Out w X (r.next k) P) : Out w X r (fun a h1 w1 => Out w1 X (k a h1) P) := by
  cases r with
  | no => exact h
  | er c vs hh => exact h
  | ok a h1 =>
    intro w1 s1 r1
    have h' : Out w X (k a h1) P := h
    cases e : k a h1 with
    | no => rw [e] at h'; exact h'
    | er c vs h2 =>
      rw [e] at h'
      exact fun w2 C dx s2 r2 e2 e3 => h' w2 C dx (s1.trans s2) r2 (by rw [← s1.g]; exact e2) e3
    | ok b h2 =>
      rw [e] at h'
      exact fun w2 s2 r2 => h' w2 (s1.trans s2) r2
theorem Out.mono {α : Type} {w : Wd} {X : XK} {r : R α} {P P' : α → List O → Wd → Prop} (h : Out w X r P) (hp : ∀ a h w', P a h w' → P' a h w') : Out w X r P' := by
  cases r with
  | no => exact h
  | er c vs hh => exact h
  | ok a h1 => exact fun w' s r => hp _ _ _ (h w' s r)

/-! ### readings by mirrors -/
structure Wok (X : Cx) (gd : Gd) (w : Wd) : Prop where
  k : w.K = X.K
  g : w.gd = gd
def tE (K : PySem.W.Frag) (gd : Gd) (Ex : XK) (m : E) : TE := fun σ H Q => ∃ w h aσ, w.K = K ∧ w.gd = gd ∧ w.H = H ∧ RelH w h ∧ SlE w σ aσ ∧ Out w Ex (m aσ h) (fun d _ w' => ∀ v, Rep w' d v → Q v w'.H)
def tT (K : PySem.W.Frag) (gd : Gd) (Ex : XK) (m : T) : TT := fun σ H Q => ∃ w h aσ, w.K = K ∧ w.gd = gd ∧ w.H = H ∧ RelH w h ∧ SlE w σ aσ ∧ Out w Ex (m aσ h) (fun b _ w' => Q b w'.H)
def tA (K : PySem.W.Frag) (gd : Gd) (Ex : XK) (ms : List E) : TA := fun σ H Q => ∃ w h aσ, w.K = K ∧ w.gd = gd ∧ w.H = H ∧ RelH w h ∧ SlE w σ aσ ∧ Out w Ex (evs ms aσ h) (fun ds _ w' => ∀ vs, Reps w' ds vs → Q vs w'.H)
/-- an operation on two values -/
def r2 (K : PySem.W.Frag) (gd : Gd) (Ex : XK) (f : D → D → M D) : R2 := fun x y H Q => ∃ w h dx dy, w.K = K ∧ w.gd = gd ∧ w.H = H ∧ RelH w h ∧ Rep w dx x ∧ Rep w dy y ∧ Out w Ex (f dx dy h) (fun d _ w' => ∀ v, Rep w' d v → Q v w'.H)
def r1 (K : PySem.W.Frag) (gd : Gd) (Ex : XK) (f : D → M D) : V → Hp → VK → Prop := fun x H Q => ∃ w h dx, w.K = K ∧ w.gd = gd ∧ w.H = H ∧ RelH w h ∧ Rep w dx x ∧ Out w Ex (f dx h) (fun d _ w' => ∀ v, Rep w' d v → Q v w'.H)
def rN (K : PySem.W.Frag) (gd : Gd) (Ex : XK) (f : List D → M D) : List V → Hp → VK → Prop := fun xs H Q => ∃ w h ds, w.K = K ∧ w.gd = gd ∧ w.H = H ∧ RelH w h ∧ Reps w ds xs ∧ Out w Ex (f ds h) (fun d _ w' => ∀ v, Rep w' d v → Q v w'.H)
theorem PE.imp {X : Cx} {e : Expr} {t t' : TE} (h : PE X e t) (i : ∀ σ H Q, t' σ H Q → t σ H Q) : PE X e t' := ⟨fun pins s σ H Q I q => h.run pins s σ H Q I (i σ H Q q)⟩
theorem PT.imp {X : Cx} {e : Expr} {t t' : TT} (h : PT X e t) (i : ∀ σ H Q, t' σ H Q → t σ H Q) : PT X e t' := ⟨fun pins s σ H Q I q => h.run pins s σ H Q I (i σ H Q q)⟩
theorem PA.imp {X : Cx} {e : List Expr} {t t' : TA} (h : PA X e t) (i : ∀ σ H Q, t' σ H Q → t σ H Q) : PA X e t' := ⟨fun p pins s σ H Q I q => h.run p pins s σ H Q I (i σ H Q q)⟩
/-- the core of all: a mirror, then what comes -/
theorem tE_bind {K : PySem.W.Frag} {gd : Gd} {Ex : XK} {m : E} {w : Wd} {h : List O} {σ : L2.St} {aσ : S} {β : Type} {k : D → M β} {P : β → List O → Wd → Prop} {Q : V → Hp → Prop}
    (wk : w.K = K) (wg : w.gd = gd) (r : RelH w h) (s : SlE w σ aσ) (o : Out w Ex ((m aσ >>= k) h) P)
    (hq : ∀ (d : D) (h1 : List O) (w1 : Wd) (v : V), XS w w1 → w1.K = K → w1.gd = gd → RelH w1 h1 → SlE w1 σ aσ → Rep w1 d v → Out w1 Ex (k d h1) P → Q v w1.H) : tE K gd Ex m σ w.H Q := by
  refine ⟨w, h, aσ, wk, wg, rfl, r, s, ?_⟩
  have o' : Out w Ex (m aσ h) (fun a h1 w1 => Out w1 Ex (k a h1) P) := Out.bind o
  cases e : m aσ h with
  | no => rw [e] at o'; exact o'
  | er c vs h1 => rw [e] at o'; exact o'
  | ok d h1 =>
    rw [e] at o'
    exact fun w1 s1 r1 v rv => hq d h1 w1 v s1 (s1.k.trans wk) (s1.g.trans wg) r1 (s.xs s1 r) rv (o' w1 s1 r1)
theorem tT_bind {K : PySem.W.Frag} {gd : Gd} {Ex : XK} {m : T} {w : Wd} {h : List O} {σ : L2.St} {aσ : S} {β : Type} {k : Bool → M β} {P : β → List O → Wd → Prop} {Q : Bool → Hp → Prop}
    (wk : w.K = K) (wg : w.gd = gd) (r : RelH w h) (s : SlE w σ aσ) (o : Out w Ex ((m aσ >>= k) h) P)
    (hq : ∀ (d : Bool) (h1 : List O) (w1 : Wd), XS w w1 → w1.K = K → w1.gd = gd → RelH w1 h1 → SlE w1 σ aσ → Out w1 Ex (k d h1) P → Q d w1.H) : tT K gd Ex m σ w.H Q := by
  refine ⟨w, h, aσ, wk, wg, rfl, r, s, ?_⟩
  have o' : Out w Ex (m aσ h) (fun a h1 w1 => Out w1 Ex (k a h1) P) := Out.bind o
  cases e : m aσ h with
  | no => rw [e] at o'; exact o'
  | er c vs h1 => rw [e] at o'; exact o'
  | ok d h1 =>
    rw [e] at o'
    exact fun w1 s1 r1 => hq d h1 w1 s1 (s1.k.trans wk) (s1.g.trans wg) r1 (s.xs s1 r) (o' w1 s1 r1)
theorem tA_bind {K : PySem.W.Frag} {gd : Gd} {Ex : XK} {ms : List E} {w : Wd} {h : List O} {σ : L2.St} {aσ : S} {β : Type} {k : List D → M β} {P : β → List O → Wd → Prop} {Q : List V → Hp → Prop}
    (wk : w.K = K) (wg : w.gd = gd) (r : RelH w h) (s : SlE w σ aσ) (o : Out w Ex ((evs ms aσ >>= k) h) P)
    (hq : ∀ (d : List D) (h1 : List O) (w1 : Wd) (v : List V), XS w w1 → w1.K = K → w1.gd = gd → RelH w1 h1 → SlE w1 σ aσ → Reps w1 d v → Out w1 Ex (k d h1) P → Q v w1.H) : tA K gd Ex ms σ w.H Q := by
  refine ⟨w, h, aσ, wk, wg, rfl, r, s, ?_⟩
  have o' : Out w Ex (evs ms aσ h) (fun a h1 w1 => Out w1 Ex (k a h1) P) := Out.bind o
  cases e : evs ms aσ h with
  | no => rw [e] at o'; exact o'
  | er c vs h1 => rw [e] at o'; exact o'
  | ok d h1 =>
    rw [e] at o'
    exact fun w1 s1 r1 v rv => hq d h1 w1 v s1 (s1.k.trans wk) (s1.g.trans wg) r1 (s.xs s1 r) rv (o' w1 s1 r1)
theorem out_ret {α : Type} {w : Wd} {Ex : XK} {a : α} {h : List O} {P : α → List O → Wd → Prop} (o : Out w Ex (ret a h) P) (r : RelH w h) : P a h w := o w (XS.refl w) r

section
variable {X : Cx} {gd : Gd} {Ex : XK} {a b c : Expr} {ma mb mc : E} {pos : Pos}
/-! ### expressions -/
theorem R_bin {op : Operator} {f : D → D → M D} (ho : OpR X (binaryOp op) (r2 X.K gd Ex f)) (ha : PE X a (tE X.K gd Ex ma)) (hb : PE X b (tE X.K gd Ex mb)) : PE X (.BinOp a op b pos) (tE X.K gd Ex (e2 f ma mb)) := by
  refine PE.imp (pe_op ho ha hb) fun σ H Q h => ?_
  obtain ⟨w, h, aσ, wk, wg, rfl, r, s, o⟩ := h
  exact tE_bind wk wg r s o fun d h1 w1 v s1 k1 g1 r1 sl1 rv o1 => tE_bind k1 g1 r1 sl1 o1 fun d2 h2 w2 v2 s2 k2 g2 r2 sl2 rv2 o2 =>
    ⟨w2, h2, d, d2, k2, g2, rfl, r2, Rep.step s2.step _ _ rv, rv2, o2⟩
theorem R_var {i : Nat} {x : Str} (hN : X.N[i]? = some x) (hv : Vis X.env.scope x) (hd : (x == ("__debug__" : Str)) = false := by decide) (hcd : (x == ("__classdict__" : Str)) = false := by decide) : PE X (.Name x pos) (tE X.K gd Ex (eVar i)) := by
  refine PE.imp (pe_var hN hv hd hcd) fun σ H Q h => ?_
  obtain ⟨w, h, aσ, wk, wg, rfl, r, s, o⟩ := h
  unfold eVar at o
  cases e : aσ[i]? with
  | none => rw [e] at o; exact o.elim
  | some z =>
    rw [e] at o
    cases z with
    | no => exact o.elim
    | own d => exact o.elim
    | val d =>
      obtain ⟨v, e1, e2⟩ := s.val i d e
      exact ⟨v, e1, o w (XS.refl w) r v e2⟩
end
end Cf
set_option Elab.async false
set_option linter.all false
set_option maxRecDepth 100000
set_option maxHeartbeats 2000000
/-! CfC: the rules of operations. -/
namespace Cf
open PySem L2

/-! ### new objects -/
theorem Reps.xs {w w' : Wd} (a : XS w w') {ds : List D} {xs : List V} (h : Reps w ds xs) : Reps w' ds xs := Reps.step a.step _ _ h
/-- a new object that no one knows -/
def Wd.put (w : Wd) (p : Addr) (o : HO) : Wd := { w with H := upd w.H p o }
theorem xs_put {w : Wd} {p : Addr} {o : HO} (hp : w.H p = none) : XS w (w.put p o) :=
  ⟨rfl, rfl, rfl, List.prefix_refl _, fun b u e n _ => ⟨by show upd w.H p o b = _; rw [upd_ne (ne_of_none e hp)]; exact e, n⟩⟩
theorem RelH.ρt {w : Wd} {h : List O} (r : RelH w h) {a : Addr} (ha : a ∈ w.ρ) : ∃ o, w.H a = some o ∧ NoTbl o := by
  obtain ⟨i, hi, e⟩ := List.getElem_of_mem ha
  have hi' : i < h.length := by rw [← r.len]; exact hi
  have e1 : w.ρ[i]? = some a := by rw [List.getElem?_eq_getElem hi, e]
  have q := r.obj i h[i] a (List.getElem?_eq_getElem hi') e1
  cases z : h[i] with
  | lst ds => rw [z] at q; obtain ⟨xs, e, _⟩ := q; exact ⟨_, e, lst_notbl⟩
  | ins c ns vs => rw [z] at q; obtain ⟨C, dx, fs, _, e, _⟩ := q; exact ⟨_, e, ins_notbl⟩
theorem RelH.frz_new {w : Wd} {h : List O} (r : RelH w h) {p : Addr} (hp : w.H p = none) : Frz w p :=
  ⟨fun n => (by obtain ⟨o, e, _⟩ := (r.own p n).1; rw [hp] at e; cases e), fun hm => (by obtain ⟨o, e, _⟩ := r.ρt hm; rw [hp] at e; cases e)⟩
theorem tabs_put {T : List (Addr × Str)} {H : Hp} {p : Addr} {o : HO} (t : LamX.Tabs T H) (hp : H p = none) : LamX.Tabs T (upd H p o) :=
  t.ext fun b u e => by rw [upd_ne (ne_of_none e hp)]; exact e
theorem RelH.put {w : Wd} {h : List O} (r : RelH w h) {p : Addr} {o : HO} (hp : w.H p = none) : RelH (w.put p o) h := by
  have a := xs_put (o := o) hp
  refine ⟨r.len, r.nd, fun i ob c e1 e2 => ?_, fun b hb => ?_, tabs_put r.tT hp⟩
  · have q := r.obj i ob c e1 e2
    cases ob with
    | lst ds =>
      obtain ⟨xs, e, q⟩ := q
      exact ⟨xs, by show upd w.H p o c = _; rw [upd_ne (ne_of_none e hp)]; exact e, q.xs a⟩
    | ins c' ns vs =>
      obtain ⟨C, dx, fs, g, e, en, q⟩ := q
      exact ⟨C, dx, fs, g, by show upd w.H p o c = _; rw [upd_ne (ne_of_none e hp)]; exact e, en, q.xs a⟩
  · obtain ⟨⟨u, e, n⟩, m⟩ := r.own b hb
    exact ⟨⟨u, by show upd w.H p o b = _; rw [upd_ne (ne_of_none e hp)]; exact e, n⟩, m⟩
theorem Wd.put_same {w : Wd} {p : Addr} {o : HO} : (w.put p o).H p = some o := upd_same
theorem frz_put {w : Wd} {h : List O} (r : RelH w h) {p : Addr} {o : HO} (hp : w.H p = none) : Frz (w.put p o) p := r.frz_new hp
/-- a new tuple, a new list -/
theorem rep_tup {w : Wd} {h : List O} (r : RelH w h) {p : Addr} {ds : List D} {xs : List V} (hp : w.H p = none) (rs : Reps w ds xs) : Rep (w.put p (.tup xs)) (.tup ds) (.ref p) := by
  rw [Rep]; exact ⟨p, xs, rfl, .inl ⟨.inl upd_same, frz_put r hp⟩, rs.xs (xs_put hp)⟩
theorem rep_lst {w : Wd} {h : List O} (r : RelH w h) {p : Addr} {ds : List D} {xs : List V} (hp : w.H p = none) (rs : Reps w ds xs) : Rep (w.put p (.lst xs)) (.lst ds) (.ref p) := by
  rw [Rep]; exact ⟨p, xs, rfl, .inl ⟨.inl upd_same, frz_put r hp⟩, rs.xs (xs_put hp)⟩
/-- the end of a reading that gives a value without a new object -/
theorem out_val {w : Wd} {Ex : XK} {h : List O} {d : D} {v : V} {Q : V → Hp → Prop} (o : Out w Ex (ret d h) (fun d _ w' => ∀ v, Rep w' d v → Q v w'.H)) (r : RelH w h) (rv : Rep w d v) : Q v w.H := o w (XS.refl w) r v rv
theorem out_put {w : Wd} {Ex : XK} {h : List O} {d : D} {v : V} {p : Addr} {ob : HO} {Q : V → Hp → Prop} (o : Out w Ex (ret d h) (fun d _ w' => ∀ v, Rep w' d v → Q v w'.H)) (r : RelH w h) (hp : w.H p = none) (rv : Rep (w.put p ob) d v) : Q v (upd w.H p ob) :=
  o (w.put p ob) (xs_put hp) (r.put hp) v rv

theorem out_guard {α : Type} {c : Prop} [Decidable c] {w : Wd} {Ex : XK} {a : M α} {h : List O} {P : α → List O → Wd → Prop} (o : Out w Ex ((if c then a else no) h) P) : c ∧ Out w Ex (a h) P := by
  by_cases hc : c
  · rw [if_pos hc] at o; exact ⟨hc, o⟩
  · rw [if_neg hc] at o; exact o.elim
theorem size_le {n : Nat} (h : n ≤ LIM) : n ≤ sizeLine := Nat.le_trans h (by decide)
@[simp] theorem rep_non {w : Wd} {v : V} : Rep w .non v = (v = .non) := by rw [Rep]
@[simp] theorem rep_bl {w : Wd} {b : Bool} {v : V} : Rep w (.bl b) v = (v = .bl b) := by rw [Rep]
@[simp] theorem rep_int {w : Wd} {i : Int} {v : V} : Rep w (.int i) v = (v = .int i) := by rw [Rep]
@[simp] theorem rep_str {w : Wd} {s : List Nat} {v : V} : Rep w (.str s) v = (v = sv s ∧ SOk s) := by rw [Rep]
theorem rep_tup_iff {w : Wd} {ds : List D} {v : V} : Rep w (.tup ds) v ↔ ∃ a xs, v = .ref a ∧ TupAt w a xs ∧ Reps w ds xs := by rw [Rep]
theorem rep_lst_iff {w : Wd} {ds : List D} {v : V} : Rep w (.lst ds) v ↔ ∃ a xs, v = .ref a ∧ LstAt w a xs ∧ Reps w ds xs := by rw [Rep]
theorem rep_ref_iff {w : Wd} {n : Nat} {v : V} : Rep w (.ref n) v ↔ ∃ a, w.ρ[n]? = some a ∧ v = .ref a := by rw [Rep]
theorem sv_app (a b : List Nat) : (⟨a.toArray⟩ : Str) ++ (⟨b.toArray⟩ : Str) = ⟨(a ++ b).toArray⟩ := by
  show (⟨a.toArray ++ b.toArray⟩ : Str) = _
  simp
theorem sv_len (a : List Nat) : (⟨a.toArray⟩ : Str).length = a.length := by simp [Str.length]

theorem SOk.app {a b : List Nat} (h : SOk a) (k : SOk b) (l : a.length + b.length ≤ sizeLine) : SOk (a ++ b) :=
  ⟨by rw [List.length_append]; exact l, fun c hc => (List.mem_append.mp hc).elim (h.ok c) (k.ok c)⟩
theorem SOk.sub {a b : List Nat} (h : SOk a) (l : b.length ≤ a.length) (m : ∀ c ∈ b, c ∈ a) : SOk b := ⟨Nat.le_trans l h.len, fun c hc => h.ok c (m c hc)⟩
theorem SOk.one {a : List Nat} {c : Nat} (h : SOk a) (m : c ∈ a) : SOk [c] := ⟨by show 1 ≤ sizeLine; decide, fun d hd => by rw [List.mem_singleton] at hd; subst hd; exact h.ok _ m⟩
section
open PyProof.Rows
variable {prog : Program} {w : World} {A : Around} {E : Value → Shared → Prop} {s : Shared}
theorem add_listsP {l b : Addr} {vs ws : List Value} {Q : Value → Shared → Prop} (hl : s.heap.IsList l vs.toArray) (hb : s.heap.IsList b ws.toArray)
    (h : Q (.ref s.heap.objs.size) { s with heap := s.heap.push { cls := .type "list", data := .seq (vs ++ ws).toArray } }) (hsz : vs.length + ws.length ≤ sizeLine) :
    wpAny (model prog w) A (binaryOp .Add (.ref l) (.ref b)) Q E s := by
  obtain ⟨⟨cls, dd, data, sl⟩, ho, hc, n, hd⟩ := id hl
  obtain ⟨⟨cls2, dd2, data2, sl2⟩, ho2, hc2, n2, hd2⟩ := id hb
  simp only at hc hd hc2 hd2
  subst hc hd hc2 hd2
  have e : vs.toArray ++ ws.toArray = (vs ++ ws).toArray := by simp
  refine concat_meets ⟨_, ho, rfl⟩ ⟨_, ho2, rfl⟩ noFill_list_add seq_list_add PySem.F.slot_list_add PySem.F.entry_list_add (PySem.F.args_list_add_2 _ _) (list_addW l b vs.toArray ws.toArray n n2 dd dd2 sl sl2 (by simpa using hsz)) ⟨ho, ho2, ?_⟩
  rw [e]
  exact h
end

section
variable {X : Cx} {gd : Gd} {Ex : XK}
theorem o_add : OpR X (binaryOp .Add) (r2 X.K gd Ex pAdd) := by
  intro pins s σ H x y v u Q I rx ry h
  obtain ⟨w, h, dx, dy, wk, wg, rfl, r, hx, hy, o⟩ := h
  cases dx <;> cases dy <;> first
    | exact False.elim o
    | skip
  · rw [rep_int] at hx hy
    subst hx hy
    exact op_add pins s σ _ _ _ v u Q I rx ry ⟨_, _, rfl, rfl, out_val o r (by rw [rep_int])⟩
  · rename_i a b
    rw [rep_str] at hx hy
    obtain ⟨rfl, l1⟩ := hx
    obtain ⟨rfl, l2⟩ := hy
    obtain ⟨hl, o⟩ := out_guard o
    refine op_add_str pins s σ _ _ _ v u Q I rx ry ⟨_, _, rfl, rfl, by rw [sv_len, sv_len]; exact size_le hl, ?_⟩
    rw [sv_app]
    exact out_val o r (by rw [rep_str]; exact ⟨rfl, l1.app l2 (size_le hl)⟩)
  · rename_i a b
    rw [rep_tup_iff] at hx hy
    obtain ⟨p, xs, rfl, t1, q1⟩ := hx
    obtain ⟨p2, ys, rfl, t2, q2⟩ := hy
    obtain ⟨hl, o⟩ := out_guard o
    · have e1 := q1.length
      have e2 := q2.length
      refine op_catA pins s σ _ _ _ v u Q I rx ry ⟨_, _, xs, ys, rfl, rfl, wk ▸ t1.sq, wk ▸ t2.sq, by rw [e1, e2]; exact size_le hl, fun z => ?_, fun _ z => ?_, fun _ _ p hp => ?_⟩
      · have : a = [] := by subst z; exact List.length_eq_zero_iff.mp e1.symm
        subst this
        exact out_val o r (by rw [rep_tup_iff]; exact ⟨_, _, rfl, t2, q2⟩)
      · have : b = [] := by subst z; exact List.length_eq_zero_iff.mp e2.symm
        subst this
        rw [List.append_nil] at o
        exact out_val o r (by rw [rep_tup_iff]; exact ⟨_, _, rfl, t1, q1⟩)
      · exact out_put o r hp (rep_tup r hp (q1.append q2))
  · rename_i a b
    rw [rep_lst_iff] at hx hy
    obtain ⟨p, xs, rfl, t1, q1⟩ := hx
    obtain ⟨p2, ys, rfl, t2, q2⟩ := hy
    obtain ⟨hl, o⟩ := out_guard o
    obtain ⟨its, rv, p1, z1⟩ := I.list (wk ▸ t1.sq)
    obtain ⟨its2, rv2, p2, z2⟩ := I.list (wk ▸ t2.sq)
    cases rx
    cases ry
    have e1 := q1.length
    have e2 := q2.length
    have hz : xs.length + ys.length ≤ sizeLine := by rw [e1, e2]; exact size_le hl
    refine add_listsP p1.isList p2.isList ?_ (by rw [← rv.length, ← rv2.length]; exact hz)
    refine ⟨.ref _, _, I.lnew (t' := s.toks) (rv.append rv2) (by rw [List.length_append]; exact hz), rfl, ?_⟩
    exact out_put o r I.fresh (rep_lst r I.fresh (q1.append q2))
theorem o_sub : OpR X (binaryOp .Sub) (r2 X.K gd Ex pSub) := by
  intro pins s σ H x y v u Q I rx ry h
  obtain ⟨w, h, dx, dy, wk, wg, rfl, r, hx, hy, o⟩ := h
  cases dx <;> cases dy <;> first
    | exact False.elim o
    | skip
  rw [rep_int] at hx hy
  subst hx hy
  exact op_sub pins s σ _ _ _ v u Q I rx ry ⟨_, _, rfl, rfl, out_val o r (by rw [rep_int])⟩
theorem o_mul : OpR X (binaryOp .Mult) (r2 X.K gd Ex pMul) := by
  intro pins s σ H x y v u Q I rx ry h
  obtain ⟨w, h, dx, dy, wk, wg, rfl, r, hx, hy, o⟩ := h
  cases dx <;> cases dy <;> first
    | exact False.elim o
    | skip
  rename_i a b
  rw [rep_int] at hx hy
  subst hx hy
  obtain ⟨hl, o⟩ := out_guard o
  exact op_mul pins s σ _ _ _ v u Q I rx ry ⟨_, _, rfl, rfl, hl, out_val o r (by rw [rep_int])⟩
theorem o_mod : OpR X (binaryOp .Mod) (r2 X.K gd Ex pMod) := by
  intro pins s σ H x y v u Q I rx ry h
  obtain ⟨w, h, dx, dy, wk, wg, rfl, r, hx, hy, o⟩ := h
  cases dx <;> cases dy <;> first
    | exact False.elim o
    | skip
  rename_i a b
  rw [rep_int] at hx hy
  subst hx hy
  obtain ⟨hl, o⟩ := out_guard o
  exact op_mod pins s σ _ _ _ v u Q I rx ry ⟨_, _, rfl, rfl, hl.1, out_val o r (by rw [rep_int])⟩
theorem o_fdiv : OpR X (binaryOp .FloorDiv) (r2 X.K gd Ex pFDiv) := by
  intro pins s σ H x y v u Q I rx ry h
  obtain ⟨w, h, dx, dy, wk, wg, rfl, r, hx, hy, o⟩ := h
  cases dx <;> cases dy <;> first
    | exact False.elim o
    | skip
  rename_i a b
  rw [rep_int] at hx hy
  subst hx hy
  obtain ⟨hl, o⟩ := out_guard o
  exact op_fdiv pins s σ _ _ _ v u Q I rx ry ⟨_, _, rfl, rfl, hl, out_val o r (by rw [rep_int])⟩
theorem o_pow : OpR X (binaryOp .Pow) (r2 X.K gd Ex pPow) := by
  intro pins s σ H x y v u Q I rx ry h
  obtain ⟨w, h, dx, dy, wk, wg, rfl, r, hx, hy, o⟩ := h
  cases dx <;> cases dy <;> first
    | exact False.elim o
    | skip
  rename_i a b
  rw [rep_int] at hx hy
  subst hx hy
  obtain ⟨hl, o⟩ := out_guard o
  exact op_pow pins s σ _ _ _ v u Q I rx ry ⟨_, _, rfl, rfl, hl, out_val o r (by rw [rep_int])⟩
/-- comparisons of ints, of texts -/
theorem o_cmp {op : CmpOp} {f : Int → Int → Bool} {g : List Nat → List Nat → Bool} (hi : OpR X (compareOp op) (rI0 fun i j => .bl (f i j)))
    (hs : OpR X (compareOp op) (fun x y H Q => ∃ i j, x = .str i ∧ y = .str j ∧ Q (.bl (g i.cps.toList j.cps.toList)) H)) : OpR X (compareOp op) (r2 X.K gd Ex (pCmp f g)) := by
  intro pins s σ H x y v u Q I rx ry h
  obtain ⟨w, h, dx, dy, wk, wg, rfl, r, hx, hy, o⟩ := h
  cases dx <;> cases dy <;> first
    | exact False.elim o
    | skip
  · rw [rep_int] at hx hy
    subst hx hy
    exact hi pins s σ _ _ _ v u Q I rx ry ⟨_, _, rfl, rfl, out_val o r (by rw [rep_bl])⟩
  · rw [rep_str] at hx hy
    obtain ⟨rfl, l1⟩ := hx
    obtain ⟨rfl, l2⟩ := hy
    exact hs pins s σ _ _ _ v u Q I rx ry ⟨_, _, rfl, rfl, out_val o r (by rw [rep_bl])⟩
theorem lex_le (a b : List Nat) : (!decide (b < a)) = decide (a ≤ b) := by
  rw [Bool.eq_iff_iff]
  simp [List.not_lt]
theorem o_lt : OpR X (compareOp .Lt) (r2 X.K gd Ex pLt) := o_cmp op_lt op_lt_str
theorem o_le : OpR X (compareOp .LtE) (r2 X.K gd Ex pLe) := o_cmp op_le (by
  intro pins s σ H x y v u Q I rx ry h
  obtain ⟨i, j, e1, e2, q⟩ := h
  exact op_le_str pins s σ H x y v u Q I rx ry ⟨i, j, e1, e2, by rw [lex_le]; exact q⟩)
theorem o_gt : OpR X (compareOp .Gt) (r2 X.K gd Ex pGt) := o_cmp op_gt op_gt_str
theorem o_ge : OpR X (compareOp .GtE) (r2 X.K gd Ex pGe) := o_cmp op_ge (by
  intro pins s σ H x y v u Q I rx ry h
  obtain ⟨i, j, e1, e2, q⟩ := h
  exact op_ge_str pins s σ H x y v u Q I rx ry ⟨i, j, e1, e2, by rw [lex_le]; exact q⟩)
theorem RelV.isNon {w : Wd} {d : D} {v : V} (h : Rep w d v) : decide (v = .non) = isNon d := by
  cases d with
  | non => rw [rep_non] at h; subst h; rfl
  | bl b => rw [rep_bl] at h; subst h; rfl
  | int i => rw [rep_int] at h; subst h; rfl
  | str i => rw [rep_str] at h; obtain ⟨rfl, _⟩ := h; rfl
  | tup i => rw [rep_tup_iff] at h; obtain ⟨_, _, rfl, _⟩ := h; rfl
  | lst i => rw [rep_lst_iff] at h; obtain ⟨_, _, rfl, _⟩ := h; rfl
  | dct a b => rw [Rep] at h; exact h.elim
  | obj a b c => rw [Rep] at h; obtain ⟨_, _, _, _, rfl, _⟩ := h; rfl
  | ref n => rw [rep_ref_iff] at h; obtain ⟨_, _, rfl⟩ := h; rfl

/-! ### == -/
mutual
def pd : D → PyData
  | .bl b => .bool b
  | .int i => .int i
  | .str s => .str ⟨s.toArray⟩
  | .tup xs => .tuple (pds xs)
  | .lst xs => .list (pds xs)
  | .non | .dct _ _ | .obj _ _ _ | .ref _ => .none
def pds : List D → List PyData
  | [] => []
  | x :: xs => pd x :: pds xs
end
mutual
theorem dp_of {w : Wd} : ∀ (d : D) (v : V), plain d = true → Rep w d v → Dp w.K w.H v (pd d)
  | .non, v, _, h => by rw [rep_non] at h; subst h; rw [pd]; exact .non
  | .bl b, v, _, h => by rw [rep_bl] at h; subst h; rw [pd]; exact .bl b
  | .int i, v, _, h => by rw [rep_int] at h; subst h; rw [pd]; exact .int i
  | .str s, v, _, h => by rw [rep_str] at h; obtain ⟨rfl, _⟩ := h; rw [pd]; exact .str _
  | .tup ds, v, p, h => by
    rw [rep_tup_iff] at h
    obtain ⟨a, xs, rfl, t, r⟩ := h
    rw [pd]
    rw [plain] at p
    exact .tup t.sq (dps_of ds xs p r)
  | .lst ds, v, p, h => by
    rw [rep_lst_iff] at h
    obtain ⟨a, xs, rfl, t, r⟩ := h
    rw [pd]
    rw [plain] at p
    exact .lst t.sq (dps_of ds xs p r)
  | .dct _ _, v, p, h => by rw [plain] at p; cases p
  | .obj _ _ _, v, p, h => by rw [plain] at p; cases p
  | .ref _, v, p, h => by rw [plain] at p; cases p
theorem dps_of {w : Wd} : ∀ (ds : List D) (xs : List V), plains ds = true → Reps w ds xs → DpAll w.K w.H xs (pds ds)
  | [], xs, _, h => by rw [Reps] at h; subst h; rw [pds]; exact .nil
  | d :: ds, xs, p, h => by
    rw [Reps] at h
    obtain ⟨x, r, rfl, h1, h2⟩ := h
    rw [plains, Bool.and_eq_true] at p
    rw [pds]
    exact .cons (dp_of d x p.1 h1) (dps_of ds r p.2 h2)
end
mutual
theorem pd_ok {w : Wd} : ∀ (d : D) (v : V), plain d = true → Rep w d v → (pd d).canLay0 = true
  | .non, v, _, h => by rw [pd, PyData.canLay0]
  | .bl b, v, _, h => by rw [pd, PyData.canLay0]
  | .int i, v, _, h => by rw [pd, PyData.canLay0]
  | .str s, v, _, h => by
    rw [rep_str] at h
    rw [pd, PyData.canLay0]
    unfold PyData.strOk
    rw [← Array.all_toList, List.all_eq_true]
    intro c hc
    exact decide_eq_true (h.2.ok c (by simpa using hc))
  | .tup ds, v, p, h => by
    rw [rep_tup_iff] at h
    obtain ⟨a, xs, rfl, t, r⟩ := h
    rw [pd, PyData.canLay0]
    rw [plain] at p
    exact pds_ok ds xs p r
  | .lst ds, v, p, h => by
    rw [rep_lst_iff] at h
    obtain ⟨a, xs, rfl, t, r⟩ := h
    rw [pd, PyData.canLay0]
    rw [plain] at p
    exact pds_ok ds xs p r
  | .dct _ _, v, p, h => by rw [plain] at p; cases p
  | .obj _ _ _, v, p, h => by rw [plain] at p; cases p
  | .ref _, v, p, h => by rw [plain] at p; cases p
theorem pds_ok {w : Wd} : ∀ (ds : List D) (xs : List V), plains ds = true → Reps w ds xs → PyData.canLayAll0 (pds ds) = true
  | [], xs, _, h => by rw [pds, PyData.canLayAll0]
  | d :: ds, xs, p, h => by
    rw [Reps] at h
    obtain ⟨x, r, rfl, h1, h2⟩ := h
    rw [plains, Bool.and_eq_true] at p
    rw [pds, PyData.canLayAll0, pd_ok d x p.1 h1, pds_ok ds r p.2 h2]
    rfl
end
mutual
theorem pd_deep : ∀ d : D, (pd d).depth = deep d
  | .non => by rw [pd, PyData.depth, deep]
  | .bl b => by rw [pd, PyData.depth, deep]
  | .int i => by rw [pd, PyData.depth, deep]
  | .str s => by rw [pd, PyData.depth, deep]
  | .tup ds => by rw [pd, PyData.depth, deep, pds_deep ds]
  | .lst ds => by rw [pd, PyData.depth, deep, pds_deep ds]
  | .dct _ _ => by rw [pd, PyData.depth, deep]
  | .obj _ _ _ => by rw [pd, PyData.depth, deep]
  | .ref _ => by rw [pd, PyData.depth, deep]
theorem pds_deep : ∀ ds : List D, PyData.depthAll (pds ds) = deeps ds
  | [] => by rw [pds, PyData.depthAll, deeps]
  | d :: ds => by rw [pds, PyData.depthAll, deeps, pd_deep d, pds_deep ds]
end
mutual
theorem pd_eqv : ∀ d e : D, plain d = true → plain e = true → PyData.eqv (pd d) (pd e) = deq d e
  | .tup ds, .tup es, p, q => by rw [plain] at p q; rw [pd, pd, PyData.eqv, deq]; exact pds_eqv ds es p q
  | .lst ds, .lst es, p, q => by rw [plain] at p q; rw [pd, pd, PyData.eqv, deq]; exact pds_eqv ds es p q
  | .non, .non, _, _ | .non, .bl _, _, _ | .non, .int _, _, _ | .non, .str _, _, _ | .non, .tup _, _, _ | .non, .lst _, _, _ => by simp [pd, deq, PyData.eqv]
  | .bl _, .non, _, _ | .bl _, .bl _, _, _ | .bl _, .int _, _, _ | .bl _, .str _, _, _ | .bl _, .tup _, _, _ | .bl _, .lst _, _, _ => by simp [pd, deq, PyData.eqv, b2i]
  | .int _, .non, _, _ | .int _, .bl _, _, _ | .int _, .int _, _, _ | .int _, .str _, _, _ | .int _, .tup _, _, _ | .int _, .lst _, _, _ => by simp [pd, deq, PyData.eqv, b2i]
  | .str _, .non, _, _ | .str _, .bl _, _, _ | .str _, .int _, _, _ | .str _, .tup _, _, _ | .str _, .lst _, _, _ => by simp [pd, deq, PyData.eqv]
  | .str a, .str b, _, _ => by
    simp only [pd, deq, PyData.eqv]
    rw [Bool.eq_iff_iff]; simp
  | .tup _, .non, _, _ | .tup _, .bl _, _, _ | .tup _, .int _, _, _ | .tup _, .str _, _, _ | .tup _, .lst _, _, _ => by simp [pd, deq, PyData.eqv]
  | .lst _, .non, _, _ | .lst _, .bl _, _, _ | .lst _, .int _, _, _ | .lst _, .str _, _, _ | .lst _, .tup _, _, _ => by simp [pd, deq, PyData.eqv]
  | .dct _ _, e, p, q => by rw [plain] at p; cases p
  | .obj _ _ _, e, p, q => by rw [plain] at p; cases p
  | .ref _, e, p, q => by rw [plain] at p; cases p
  | d, .dct _ _, p, q => by rw [plain] at q; cases q
  | d, .obj _ _ _, p, q => by rw [plain] at q; cases q
  | d, .ref _, p, q => by rw [plain] at q; cases q
theorem pds_eqv : ∀ ds es : List D, plains ds = true → plains es = true → PyData.eqvAll (pds ds) (pds es) = deqs ds es
  | [], [], _, _ => by rw [pds, PyData.eqvAll, deqs]
  | [], e :: es, _, _ => by simp [pds, PyData.eqvAll, deqs]
  | d :: ds, [], _, _ => by simp [pds, PyData.eqvAll, deqs]
  | d :: ds, e :: es, p, q => by
    rw [plains, Bool.and_eq_true] at p q
    rw [pds, pds, PyData.eqvAll, deqs, pd_eqv d e p.1 q.1, pds_eqv ds es p.2 q.2]
end
theorem shaped_of {w : Wd} {d : D} {v : V} (e : eqable d = true) (h : Rep w d v) : SeqAt.shaped (pd d) = true := by
  unfold eqable at e
  rw [Bool.and_eq_true, decide_eq_true_eq] at e
  unfold SeqAt.shaped
  rw [pd_ok d v e.1 h, pd_deep]
  simp only [Bool.true_and, decide_eq_true_eq]
  omega
theorem plain_of {d : D} (e : eqable d = true) : plain d = true := by
  unfold eqable at e
  rw [Bool.and_eq_true] at e
  exact e.1
theorem o_eq (hu : X.A.units + 64 < cLine) : OpR X (compareOp .Eq) (r2 X.K gd Ex pEq) := by
  intro pins s σ H x y v u Q I rx ry h
  obtain ⟨w, h, dx, dy, wk, wg, rfl, r, hx, hy, o⟩ := h
  obtain ⟨⟨e1, e2⟩, o⟩ := out_guard o
  exact op_eqD hu pins s σ _ _ _ v u Q I rx ry ⟨pd dx, pd dy, wk ▸ dp_of dx x (plain_of e1) hx, wk ▸ dp_of dy y (plain_of e2) hy, shaped_of e1 hx, shaped_of e2 hy,
    by rw [pd_eqv dx dy (plain_of e1) (plain_of e2)]; exact out_val o r (by rw [rep_bl])⟩
theorem o_ne (hu : X.A.units + 64 < cLine) : OpR X (compareOp .NotEq) (r2 X.K gd Ex pNe) := by
  intro pins s σ H x y v u Q I rx ry h
  obtain ⟨w, h, dx, dy, wk, wg, rfl, r, hx, hy, o⟩ := h
  obtain ⟨⟨e1, e2⟩, o⟩ := out_guard o
  exact op_neD hu pins s σ _ _ _ v u Q I rx ry ⟨pd dx, pd dy, wk ▸ dp_of dx x (plain_of e1) hx, wk ▸ dp_of dy y (plain_of e2) hy, shaped_of e1 hx, shaped_of e2 hy,
    by rw [pd_eqv dx dy (plain_of e1) (plain_of e2)]; exact out_val o r (by rw [rep_bl])⟩
end
end Cf
set_option Elab.async false
set_option linter.all false
set_option maxRecDepth 100000
set_option maxHeartbeats 2000000
/-! CfD: the rules of operations, further: in, items, slices, len, texts, isinstance. -/
namespace Cf
open PySem L2

/-! ### what a value is -/
theorem rep_flat {w : Wd} {d : D} {v : V} (h : Rep w d v) (f : flat d = true) : flatV v = true := by
  cases d <;> first
    | (cases f; done)
    | (simp only [rep_non, rep_bl, rep_int, rep_str] at h; first | (subst h; rfl) | (obtain ⟨rfl, _⟩ := h; rfl))
theorem reps_flat {w : Wd} : ∀ {ds : List D} {xs : List V}, Reps w ds xs → ds.all flat = true → xs.all flatV = true
  | [], _, h, _ => by rw [Reps] at h; subst h; rfl
  | d :: ds, _, h, f => by
    rw [Reps] at h
    obtain ⟨x, r, rfl, h1, h2⟩ := h
    rw [List.all_cons, Bool.and_eq_true] at f ⊢
    exact ⟨rep_flat h1 f.1, reps_flat h2 f.2⟩
theorem sv_beq (a b : List Nat) : ((⟨a.toArray⟩ : Str) == ⟨b.toArray⟩) = (a == b) := by
  rw [Bool.eq_iff_iff]; simp
theorem flat_eq {w : Wd} {d e : D} {v u : V} (h : Rep w d v) (k : Rep w e u) (f : flat d = true) (g : flat e = true) : eqV v u = deq d e := by
  cases d <;> first
    | (cases f; done)
    | (cases e <;> first
        | (cases g; done)
        | (simp only [rep_non, rep_bl, rep_int, rep_str] at h k
           first
             | (subst h k; simp [eqV, deq, b2i])
             | (obtain ⟨rfl, _⟩ := h; obtain ⟨rfl, _⟩ := k; simp only [eqV, deq, sv]; exact sv_beq _ _)
             | (obtain ⟨rfl, _⟩ := h; subst k; simp [eqV, deq, sv])
             | (subst h; obtain ⟨rfl, _⟩ := k; simp [eqV, deq, sv])))
theorem flat_any {w : Wd} {d : D} {v : V} (h : Rep w d v) (f : flat d = true) : ∀ {ds : List D} {xs : List V}, Reps w ds xs → ds.all flat = true → inV v xs = ds.any fun e => deq e d
  | [], _, r, _ => by rw [Reps] at r; subst r; rfl
  | e :: ds, _, r, g => by
    rw [Reps] at r
    obtain ⟨x, t, rfl, h1, h2⟩ := r
    rw [List.all_cons, Bool.and_eq_true] at g
    have ih := flat_any h f h2 g.2
    unfold inV at ih ⊢
    rw [List.any_cons, List.any_cons, ih, flat_eq h1 h g.1 f]
theorem sub_in (a b : List Nat) : (!(Builtin.Str.occurrences ⟨b.toArray⟩ ⟨a.toArray⟩ 0 (⟨b.toArray⟩ : Str).length 1).isEmpty) = subIn a b := by
  rw [Bool.eq_iff_iff, StrLaws.found_iff]
  unfold subIn
  rw [List.any_eq_true]
  simp only [sv_len, StrLaws.subAt_eq, List.mem_range]
  constructor
  · rintro ⟨i, h1, h2⟩
    exact ⟨i, by omega, h2⟩
  · rintro ⟨i, h1, h2⟩
    refine ⟨i, ?_, h2⟩
    have e := congrArg List.length (beq_iff_eq.mp h2)
    rw [List.length_take, List.length_drop] at e
    omega
theorem out_opt {w : Wd} {Ex : XK} {x : Option D} {h : List O} {P : D → List O → Wd → Prop} (o : Out w Ex ((ofOpt x : M D) h) P) : ∃ d, x = some d ∧ Out w Ex (ret d h) P := by
  cases x with
  | none => exact o.elim
  | some d => exact ⟨d, rfl, o⟩
theorem out_optB {w : Wd} {Ex : XK} {x : Option Bool} {h : List O} {P : Bool → List O → Wd → Prop} (o : Out w Ex ((ofOpt x : M Bool) h) P) : ∃ d, x = some d ∧ Out w Ex (ret d h) P := by
  cases x with
  | none => exact o.elim
  | some d => exact ⟨d, rfl, o⟩
theorem out_ref {w : Wd} {Ex : XK} {n : Nat} {f : List D → M D} {h : List O} {P : D → List O → Wd → Prop} (o : Out w Ex ((refGet n f) h) P) : ∃ xs, h[n]? = some (.lst xs) ∧ Out w Ex (f xs h) P := by
  unfold refGet at o
  cases e : h[n]? with
  | none => rw [e] at o; exact o.elim
  | some x =>
    rw [e] at o
    cases x with
    | lst xs => exact ⟨xs, rfl, o⟩
    | ins _ _ _ => exact o.elim
theorem TupAt.ref {w : Wd} {ds : List D} {v : V} (h : Rep w (.tup ds) v) : ∃ a xs, v = .ref a ∧ SqT w.K w.H a xs ∧ Reps w ds xs := by
  rw [rep_tup_iff] at h; obtain ⟨a, xs, e, t, r⟩ := h; exact ⟨a, xs, e, t.sq, r⟩
theorem LstAt.ref {w : Wd} {ds : List D} {v : V} (h : Rep w (.lst ds) v) : ∃ a xs, v = .ref a ∧ SqL w.K w.H a xs ∧ Reps w ds xs := by
  rw [rep_lst_iff] at h; obtain ⟨a, xs, e, t, r⟩ := h; exact ⟨a, xs, e, t.sq, r⟩
/-- what inD tells, and what it asks of the values -/
theorem in_cases {w : Wd} {dx dy : D} {x y : V} {b : Bool} (hx : Rep w dx x) (hy : Rep w dy y) (e : inD dx dy = some b) :
    (∃ p xs, y = .ref p ∧ (SqL w.K w.H p xs ∨ SqT w.K w.H p xs) ∧ flatV x = true ∧ xs.all flatV = true ∧ inV x xs = b) ∨
    (∃ i j : Str, x = .str i ∧ y = .str j ∧ (!(Builtin.Str.occurrences j i 0 j.length 1).isEmpty) = b) := by
  unfold inD at e
  split at e
  · rename_i ys
    by_cases hf : flat dx = true ∧ ys.all flat = true
    · rw [if_pos hf] at e
      obtain ⟨a, xs, rfl, t, r⟩ := LstAt.ref hy
      exact .inl ⟨a, xs, rfl, .inl t, rep_flat hx hf.1, reps_flat r hf.2, by rw [flat_any hx hf.1 r hf.2]; exact Option.some.inj e⟩
    · rw [if_neg hf] at e; cases e
  · rename_i ys
    by_cases hf : flat dx = true ∧ ys.all flat = true
    · rw [if_pos hf] at e
      obtain ⟨a, xs, rfl, t, r⟩ := TupAt.ref hy
      exact .inl ⟨a, xs, rfl, .inr t, rep_flat hx hf.1, reps_flat r hf.2, by rw [flat_any hx hf.1 r hf.2]; exact Option.some.inj e⟩
    · rw [if_neg hf] at e; cases e
  · rename_i a b'
    rw [rep_str] at hx hy
    obtain ⟨rfl, _⟩ := hx
    obtain ⟨rfl, _⟩ := hy
    exact .inr ⟨_, _, rfl, rfl, by rw [sub_in]; exact Option.some.inj e⟩
  · rw [Rep] at hy; exact hy.elim
  · cases e
section
variable {X : Cx} {gd : Gd} {Ex : XK}
theorem o_in : OpR X (compareOp .In) (r2 X.K gd Ex pIn) := by
  intro pins s σ H x y v u Q I rx ry h
  obtain ⟨w, h, dx, dy, wk, wg, rfl, r, hx, hy, o⟩ := h
  obtain ⟨d, e, o⟩ := out_opt o
  obtain ⟨b, e1, rfl⟩ := Option.map_eq_some_iff.mp e
  rcases in_cases hx hy e1 with ⟨p, xs, rfl, t, f1, f2, e2⟩ | ⟨i, j, rfl, rfl, e2⟩
  · exact op_in_seq pins s σ _ _ _ v u Q I rx ry ⟨p, xs, rfl, wk ▸ t, f1, f2, by rw [if_neg Bool.false_ne_true, e2]; exact out_val o r (by rw [rep_bl])⟩
  · exact op_in_str pins s σ _ _ _ v u Q I rx ry ⟨i, j, rfl, rfl, by rw [e2]; exact out_val o r (by rw [rep_bl])⟩
theorem o_notin : OpR X (compareOp .NotIn) (r2 X.K gd Ex pNotIn) := by
  intro pins s σ H x y v u Q I rx ry h
  obtain ⟨w, h, dx, dy, wk, wg, rfl, r, hx, hy, o⟩ := h
  obtain ⟨d, e, o⟩ := out_opt o
  obtain ⟨b, e1, rfl⟩ := Option.map_eq_some_iff.mp e
  rcases in_cases hx hy e1 with ⟨p, xs, rfl, t, f1, f2, e2⟩ | ⟨i, j, rfl, rfl, e2⟩
  · exact op_notIn_seq pins s σ _ _ _ v u Q I rx ry ⟨p, xs, rfl, wk ▸ t, f1, f2, by rw [if_pos rfl, e2]; exact out_val o r (by rw [rep_bl])⟩
  · exact op_notin_str pins s σ _ _ _ v u Q I rx ry ⟨i, j, rfl, rfl, by rw [e2]; exact out_val o r (by rw [rep_bl])⟩

/-! ### items -/
theorem ix_eq (n : Nat) (i : Int) : ixN n i = ixOf n i := rfl
theorem at_get {w : Wd} {ds : List D} {xs : List V} {i : Int} {d : D} (r : Reps w ds xs) (e : getAt ds i = some d) : ∃ x, atI xs i = some x ∧ Rep w d x := by
  unfold getAt at e
  unfold atI
  rw [r.length]
  rw [ix_eq]
  cases z : ixOf ds.length i with
  | none => rw [z] at e; cases e
  | some j =>
    rw [z] at e
    obtain ⟨x, e1, e2⟩ := r.get (i := j) (d := d) e
    exact ⟨x, e1, e2⟩
theorem getAt_mem {α : Type} {xs : List α} {i : Int} {d : α} (e : getAt xs i = some d) : d ∈ xs := by
  unfold getAt at e
  obtain ⟨j, _, h⟩ := Option.bind_eq_some_iff.mp e
  exact List.mem_of_getElem? h
theorem o_idx : IxR X (r2 X.K gd Ex pIdx) := by
  intro value slice pins s σ H x y v u Q I rx ry h hs
  obtain ⟨w, h, dx, dy, wk, wg, rfl, r, hx, hy, o⟩ := h
  unfold pIdx at o
  split at o
  · rename_i xs i
    obtain ⟨d, e, o⟩ := out_opt o
    obtain ⟨a, ys, rfl, t, q⟩ := LstAt.ref hx
    rw [rep_int] at hy
    subst hy
    obtain ⟨z, e1, e2⟩ := at_get q e
    exact ix_list value slice pins s σ _ _ _ v u Q I rx ry ⟨a, ys, i, z, rfl, rfl, wk ▸ t, e1, out_val o r e2⟩ hs
  · rename_i xs i
    obtain ⟨d, e, o⟩ := out_opt o
    obtain ⟨a, ys, rfl, t, q⟩ := TupAt.ref hx
    rw [rep_int] at hy
    subst hy
    obtain ⟨z, e1, e2⟩ := at_get q e
    exact ix_tup value slice pins s σ _ _ _ v u Q I rx ry ⟨a, ys, i, z, rfl, rfl, wk ▸ t, e1, out_val o r e2⟩ hs
  · rename_i ss i
    obtain ⟨d, e, o⟩ := out_opt o
    obtain ⟨c, e1, rfl⟩ := Option.map_eq_some_iff.mp e
    rw [rep_str] at hx
    obtain ⟨rfl, ok⟩ := hx
    rw [rep_int] at hy
    subst hy
    exact ix_str value slice pins s σ _ _ _ v u Q I rx ry ⟨_, i, c, rfl, rfl, by rw [sv_len]; exact ok.len, e1, out_val o r (by rw [rep_str]; exact ⟨rfl, ok.one (getAt_mem e1)⟩)⟩ hs
  · rw [Rep] at hx; exact hx.elim
  · rename_i n i
    rw [rep_ref_iff] at hx
    obtain ⟨a, ea, rfl⟩ := hx
    rw [rep_int] at hy
    subst hy
    obtain ⟨xs, en, o⟩ := out_ref o
    · obtain ⟨d, e, o⟩ := out_opt o
      obtain ⟨ys, eh, q⟩ := r.obj n _ a en ea
      obtain ⟨z, e1, e2⟩ := at_get q e
      exact ix_list value slice pins s σ _ _ _ v u Q I rx ry ⟨a, ys, i, z, rfl, rfl, SqL.of eh, e1, out_val o r e2⟩ hs
  · exact o.elim
/-! ### slices -/
theorem clip_sIx (n d : Nat) (o : Option Int) : HT.sIx n d o = clip n d o := by cases o <;> rfl
theorem cut_reps {w : Wd} {ds : List D} {xs : List V} (r : Reps w ds xs) (lo hi : Option Int) : Reps w (cut ds lo hi) (cutV xs lo hi) := by
  unfold cut cutV
  rw [clip_sIx, clip_sIx, r.length]
  exact (r.drop _).take _
theorem cut_mem {α : Type} {xs : List α} {lo hi : Option Int} {c : α} (h : c ∈ cut xs lo hi) : c ∈ xs := List.mem_of_mem_drop (List.mem_of_mem_take h)
theorem cut_len {α : Type} (xs : List α) (lo hi : Option Int) : (cut xs lo hi).length ≤ xs.length := by
  unfold cut; rw [List.length_take, List.length_drop]; omega
theorem cut_whole {α : Type} {xs : List α} {lo hi : Option Int} (h : clip xs.length 0 lo = 0 ∧ clip xs.length xs.length hi = xs.length) : cut xs lo hi = xs := by
  unfold cut; rw [h.1, h.2]; simp
def rSl (K : PySem.W.Frag) (gd : Gd) (Ex : XK) : V → Option Int → Option Int → Hp → VK → Prop := fun x lo hi H Q => ∃ w h dx, w.K = K ∧ w.gd = gd ∧ w.H = H ∧ RelH w h ∧ Rep w dx x ∧ Out w Ex (pSlice dx lo hi h) (fun d _ w' => ∀ v, Rep w' d v → Q v w'.H)
theorem o_slice : SlR X (rSl X.K gd Ex) := by
  intro pins s σ H x v vl vu lo hi sl Q I rx hs pl pu h
  obtain ⟨w, h, dx, wk, wg, rfl, r, hx, o⟩ := h
  unfold pSlice at o
  split at o
  · rename_i ss
    rw [rep_str] at hx
    obtain ⟨rfl, ok⟩ := hx
    refine sl_str pins s σ _ _ v vl vu lo hi sl Q I rx hs pl pu ⟨_, rfl, by rw [sv_len]; exact ok.len, ?_⟩
    have e : cutS (⟨ss.toArray⟩ : Str) lo hi = ⟨(cut ss lo hi).toArray⟩ := by
      unfold cutS cut
      rw [sv_len, clip_sIx, clip_sIx]
    rw [e]
    exact out_val o r (by rw [rep_str]; exact ⟨rfl, ok.sub (cut_len _ _ _) fun c => cut_mem⟩)
  · rename_i ds
    rw [rep_tup_iff] at hx
    obtain ⟨a, xs, rfl, t, q⟩ := hx
    refine sl_tupA pins s σ _ _ v vl vu lo hi sl Q I rx hs pl pu ⟨a, xs, rfl, wk ▸ t.sq, fun hw => ?_, fun _ p hp => ?_⟩
    · rw [clip_sIx, clip_sIx, q.length] at hw
      rw [cut_whole hw] at o
      exact out_val o r (by rw [rep_tup_iff]; exact ⟨a, xs, rfl, t, q⟩)
    · exact out_put o r hp (rep_tup r hp (cut_reps q lo hi))
  · rename_i ds
    obtain ⟨a, xs, rfl, t, q⟩ := LstAt.ref hx
    exact sl_list pins s σ _ _ v vl vu lo hi sl Q I rx hs pl pu ⟨a, xs, rfl, wk ▸ t, fun p hp => out_put o r hp (rep_lst r hp (cut_reps q lo hi))⟩
  · exact o.elim
/-! ### len, int, tuple, list, isinstance -/
/-- a built-in's call of one value -/
def c1 (K : PySem.W.Frag) (gd : Gd) (Ex : XK) (f : D → M D) : List V → Hp → VK → Prop := fun xs H Q => ∃ x, xs = [x] ∧ r1 K gd Ex f x H Q
theorem o_len : CallR X (.builtin "len") (c1 X.K gd Ex pLen) := by
  intro pins s σ H xs us Q I rs h
  obtain ⟨x, rfl, w, h, dx, wk, wg, rfl, r, hx, o⟩ := h
  unfold pLen at o
  split at o
  · rename_i ss
    rw [rep_str] at hx
    obtain ⟨rfl, ok⟩ := hx
    refine call_len_str pins s σ _ _ us Q I rs ⟨_, rfl, by rw [sv_len]; exact ok.len, ?_⟩
    rw [sv_len]
    exact out_val o r (by rw [rep_int])
  · obtain ⟨a, ys, rfl, t, q⟩ := TupAt.ref hx
    refine call_len_seq pins s σ _ _ us Q I rs ⟨a, ys, rfl, .inr (wk ▸ t), ?_⟩
    rw [q.length]
    exact out_val o r (by rw [rep_int])
  · obtain ⟨a, ys, rfl, t, q⟩ := LstAt.ref hx
    refine call_len_seq pins s σ _ _ us Q I rs ⟨a, ys, rfl, .inl (wk ▸ t), ?_⟩
    rw [q.length]
    exact out_val o r (by rw [rep_int])
  · rw [Rep] at hx; exact hx.elim
  · rename_i n
    rw [rep_ref_iff] at hx
    obtain ⟨a, ea, rfl⟩ := hx
    obtain ⟨xs, en, o⟩ := out_ref o
    · obtain ⟨ys, eh, q⟩ := r.obj n _ a en ea
      refine call_len_seq pins s σ _ _ us Q I rs ⟨a, ys, rfl, .inl (SqL.of eh), ?_⟩
      rw [q.length]
      exact out_val o r (by rw [rep_int])
  · exact o.elim
theorem o_int : CallR X (.type "int") (c1 X.K gd Ex pInt) := by
  intro pins s σ H xs us Q I rs h
  obtain ⟨x, rfl, w, h, dx, wk, wg, rfl, r, hx, o⟩ := h
  unfold pInt at o
  split at o
  · rw [rep_int] at hx
    subst hx
    exact call_int1 pins s σ _ _ us Q I rs (.inl ⟨_, rfl, out_val o r (by rw [rep_int])⟩)
  · rw [rep_bl] at hx
    subst hx
    exact call_int1 pins s σ _ _ us Q I rs (.inr ⟨_, rfl, out_val o r (by rw [rep_int]; rfl)⟩)
  · exact o.elim
theorem o_tuple : CallR X (.type "tuple") (c1 X.K gd Ex pTuple) := by
  intro pins s σ H xs us Q I rs h
  obtain ⟨x, rfl, w, h, dx, wk, wg, rfl, r, hx, o⟩ := h
  unfold pTuple at o
  split at o
  · rw [rep_tup_iff] at hx
    obtain ⟨a, ys, rfl, t, q⟩ := hx
    exact call_tuple_of pins s σ _ _ us Q I rs ⟨a, ys, rfl, .inr ⟨wk ▸ t.sq, out_val o r (by rw [rep_tup_iff]; exact ⟨a, ys, rfl, t, q⟩)⟩⟩
  · obtain ⟨a, ys, rfl, t, q⟩ := LstAt.ref hx
    exact call_tuple_of pins s σ _ _ us Q I rs ⟨a, ys, rfl, .inl ⟨wk ▸ t, fun p hp => out_put o r hp (rep_tup r hp q)⟩⟩
  · exact o.elim
theorem o_list : CallR X (.type "list") (c1 X.K gd Ex pList) := by
  intro pins s σ H xs us Q I rs h
  obtain ⟨x, rfl, w, h, dx, wk, wg, rfl, r, hx, o⟩ := h
  unfold pList at o
  split at o
  · obtain ⟨a, ys, rfl, t, q⟩ := TupAt.ref hx
    exact call_list_of pins s σ _ _ us Q I rs ⟨a, ys, rfl, .inr (wk ▸ t), fun p hp => out_put o r hp (rep_lst r hp q)⟩
  · obtain ⟨a, ys, rfl, t, q⟩ := LstAt.ref hx
    exact call_list_of pins s σ _ _ us Q I rs ⟨a, ys, rfl, .inl (wk ▸ t), fun p hp => out_put o r hp (rep_lst r hp q)⟩
  · exact o.elim
theorem tru_of {w : Wd} {d : D} {v : V} {b : Bool} (h : Rep w d v) (e : truth d = some b) : TruV w.K v w.H b := by
  unfold truth at e
  split at e
  · rw [rep_non] at h; subst h; exact (Option.some.inj e).symm
  · rw [rep_bl] at h; subst h; exact (Option.some.inj e).symm
  · rw [rep_int] at h; subst h; exact (Option.some.inj e).symm
  · rename_i ss
    rw [rep_str] at h
    obtain ⟨rfl, ok⟩ := h
    refine ⟨by rw [sv_len]; exact ok.len, ?_⟩
    rw [sv_len]
    rw [← Option.some.inj e]
    cases ss <;> simp
    omega
  · obtain ⟨a, ys, rfl, t, q⟩ := TupAt.ref h
    exact .inr (.inl ⟨ys, t, by rw [q.isEmpty]; exact (Option.some.inj e).symm⟩)
  · obtain ⟨a, ys, rfl, t, q⟩ := LstAt.ref h
    exact .inl ⟨ys, t, by rw [q.isEmpty]; exact (Option.some.inj e).symm⟩
  · cases e
end
end Cf
set_option Elab.async false
set_option linter.all false
set_option maxRecDepth 100000
set_option maxHeartbeats 2000000
/-! CfE: the rules of expressions and tests. -/
namespace Cf
open PySem L2

section
variable {X : Cx} {gd : Gd} {Ex : XK} {a b c : Expr} {ma mb mc : E} {pos : Pos}
/-! ### constants -/
theorem R_val {e : Expr} {v : V} {d : D} (h : PE X e (tC v)) (rv : ∀ w : Wd, Rep w d v) : PE X e (tE X.K gd Ex (eC d)) := by
  refine PE.imp h fun σ H Q h => ?_
  obtain ⟨w, h, aσ, wk, wg, rfl, r, s, o⟩ := h
  exact out_val o r (rv w)
theorem R_int {i : Int} {j : Nat} : PE X (.Constant (.int i) j pos) (tE X.K gd Ex (eC (.int i))) := R_val pe_int fun w => by rw [rep_int]
theorem R_bl {b : Bool} {j : Nat} : PE X (.Constant (.bool b) j pos) (tE X.K gd Ex (eC (.bl b))) := R_val pe_bl fun w => by rw [rep_bl]
theorem R_non {j : Nat} : PE X (.Constant .none j pos) (tE X.K gd Ex (eC .non)) := R_val pe_non fun w => by rw [rep_non]
def okL (s : List Nat) : Bool := decide (s.length ≤ 1000) && s.all fun c => decide (c < 1114112)
theorem okL_of {s : List Nat} (h : okL s = true) : SOk s := by
  unfold okL at h
  rw [Bool.and_eq_true, decide_eq_true_eq, List.all_eq_true] at h
  exact ⟨Nat.le_trans h.1 (by decide), fun c hc => of_decide_eq_true (h.2 c hc)⟩
theorem str_cps (z : String) : Str.ofString z = ⟨(cps z).toArray⟩ := Str.ofString_eq_toList z
theorem R_str {z : String} {j : Nat} (h : okL (cps z) = true := by decide +kernel) : PE X (.Constant (.str (Str.ofString z)) j pos) (tE X.K gd Ex (eC (.str (cps z)))) :=
  R_val pe_str fun w => by rw [rep_str]; exact ⟨by rw [str_cps]; rfl, okL_of h⟩
/-- a module's constant -/
theorem R_glob {x : Str} {v : V} {u : Value} {d : D} (hg : Gl X x) (hm : X.mg x = some u) (r : RelV v u) (rv : ∀ w : Wd, Rep w d v) (hd : (x == ("__debug__" : Str)) = false := by decide) : PE X (.Name x pos) (tE X.K gd Ex (eC d)) := R_val (pe_glob hg hm r hd) rv

/-! ### one value, two values -/
theorem tE_1 {f : D → M D} {R : V → Hp → VK → Prop} {σ : L2.St} {H : Hp} {Q : VK} (h : tE X.K gd Ex (e1 f ma) σ H Q) (hR : ∀ x H1, r1 X.K gd Ex f x H1 Q → R x H1 Q) : tE X.K gd Ex ma σ H fun x H1 => R x H1 Q := by
  obtain ⟨w, h, aσ, wk, wg, rfl, r, s, o⟩ := h
  exact tE_bind wk wg r s o fun d h1 w1 v s1 k1 g1 r1 sl1 rv o1 => hR v _ ⟨w1, h1, d, k1, g1, rfl, r1, rv, o1⟩
theorem tE_2 {f : D → D → M D} {R : R2} {σ : L2.St} {H : Hp} {Q : VK} (h : tE X.K gd Ex (e2 f ma mb) σ H Q) (hR : ∀ x y H1, r2 X.K gd Ex f x y H1 Q → R x y H1 Q) :
    tE X.K gd Ex ma σ H fun x H1 => tE X.K gd Ex mb σ H1 fun y H2 => R x y H2 Q := by
  obtain ⟨w, h, aσ, wk, wg, rfl, r, s, o⟩ := h
  exact tE_bind wk wg r s o fun d h1 w1 v s1 k1 g1 r1 sl1 rv o1 => tE_bind k1 g1 r1 sl1 o1 fun d2 h2 w2 v2 s2 k2 g2 r2 sl2 rv2 o2 =>
    hR v v2 _ ⟨w2, h2, d, d2, k2, g2, rfl, r2, Rep.step s2.step _ _ rv, rv2, o2⟩
theorem R_cmp {op : CmpOp} {f : D → D → M D} (ho : OpR X (compareOp op) (r2 X.K gd Ex f)) (ha : PE X a (tE X.K gd Ex ma)) (hb : PE X b (tE X.K gd Ex mb)) (hm : behindInMarks op b = false) : PE X (.Compare a [op] [b] pos) (tE X.K gd Ex (e2 f ma mb)) :=
  PE.imp (pe_cmpR ho ha hb hm) fun σ H Q h => tE_2 h fun _ _ _ q => q
theorem R_idx (ha : PE X a (tE X.K gd Ex ma)) (hb : PE X b (tE X.K gd Ex mb)) (hs : PlainIx b) : PE X (.Subscript a b pos) (tE X.K gd Ex (e2 pIdx ma mb)) :=
  PE.imp (pe_ix (o_idx (Ex := Ex)) ha hb hs) fun σ H Q h => tE_2 h fun _ _ _ q => q
theorem R_isN {j : Nat} {p : Pos} (ha : PE X a (tE X.K gd Ex ma)) : PE X (.Compare a [.Is] [.Constant .none j p] pos) (tE X.K gd Ex (e1 pIsN ma)) :=
  PE.imp (pe_cmp (pc_isN ha) rfl) fun σ H Q h => tE_1 (R := fun x H1 Q => Q (.bl (decide (x = .non))) H1) h fun x H1 q => by
    obtain ⟨w, h, d, wk, wg, rfl, r, hx, o⟩ := q
    rw [RelV.isNon hx]
    exact out_val o r (by rw [rep_bl])
theorem R_notN {j : Nat} {p : Pos} (ha : PE X a (tE X.K gd Ex ma)) : PE X (.Compare a [.IsNot] [.Constant .none j p] pos) (tE X.K gd Ex (e1 pNotN ma)) :=
  PE.imp (pe_cmp (pc_notN ha) rfl) fun σ H Q h => tE_1 (R := fun x H1 Q => Q (.bl (!decide (x = .non))) H1) h fun x H1 q => by
    obtain ⟨w, h, d, wk, wg, rfl, r, hx, o⟩ := q
    rw [RelV.isNon hx]
    exact out_val o r (by rw [rep_bl])
/-- a op b op' c -/
theorem chain_imp {f g : D → D → M D} {σ : L2.St} {H : Hp} {Q : VK} (h : tE X.K gd Ex (eChain f g ma mb mc) σ H Q) : tChain (r2 X.K gd Ex f) (r2 X.K gd Ex g) (tE X.K gd Ex ma) (tE X.K gd Ex mb) (tE X.K gd Ex mc) σ H Q := by
  obtain ⟨w, h, aσ, wk, wg, rfl, r, s, o⟩ := h
  refine tE_bind wk wg r s o fun d h1 w1 v s1 k1 g1 r1 sl1 rv o1 => tE_bind k1 g1 r1 sl1 o1 fun d2 h2 w2 v2 s2 k2 g2 r2 sl2 rv2 o2 => ?_
  refine ⟨w2, h2, d, d2, k2, g2, rfl, r2, Rep.step s2.step _ _ rv, rv2, ?_⟩
  have o3 := Out.bind o2
  cases e : f d d2 h2 with
  | no => rw [e] at o3; exact o3
  | er c vs h3 => rw [e] at o3; exact o3
  | ok z h3 =>
    rw [e] at o3
    intro w3 s3 r3 vz rz
    have o4 := o3 w3 s3 r3
    cases z with
    | bl k =>
      rw [rep_bl] at rz
      refine ⟨k, rz, ?_⟩
      cases k with
      | true =>
        rw [if_pos rfl]
        refine tE_bind (s3.k.trans k2) (s3.g.trans g2) r3 (sl2.xs s3 r2) o4 fun d4 h4 w4 v4 s4 k4 g4 r4 sl4 rv4 o5 => ?_
        exact ⟨w4, h4, d2, d4, k4, g4, rfl, r4, Rep.step (s3.trans s4).step _ _ rv2, rv4, o5⟩
      | false =>
        rw [if_neg Bool.false_ne_true]
        exact out_val o4 r3 (by rw [rep_bl])
    | _ => exact o4.elim
theorem R_chain {op op' : CmpOp} {f g : D → D → M D} (ho : OpR X (compareOp op) (r2 X.K gd Ex f)) (ho' : OpR X (compareOp op') (r2 X.K gd Ex g)) (ha : PE X a (tE X.K gd Ex ma)) (hb : PE X b (tE X.K gd Ex mb)) (hc : PE X c (tE X.K gd Ex mc))
    (hm : lastMarks [op, op'] [b, c] = false) : PE X (.Compare a [op, op'] [b, c] pos) (tE X.K gd Ex (eChain f g ma mb mc)) := by
  exact PE.imp (pe_chain ho ho' ha hb hc hm) fun σ H Q h => chain_imp h
/-! ### and, or, not, if -/
theorem R_one {op : BoolOp} (h : PE X a (tE X.K gd Ex ma)) : PE X (.BoolOp op [a] pos) (tE X.K gd Ex ma) := pe_one h
theorem tr_bind {w : Wd} {h : List O} {d : D} {v : V} {k : Bool → M D} {P : D → List O → Wd → Prop} (o : Out w Ex ((pTruth d >>= k) h) P) (rv : Rep w d v) (wk : w.K = X.K) : ∃ b, TruV X.K v w.H b ∧ Out w Ex (k b h) P := by
  have o' := Out.bind (k := k) (r := (ofOpt (truth d) : M Bool) h) o
  obtain ⟨b, e, o2⟩ := out_optB (x := truth d) (h := h) o'
  cases e2 : truth d with
  | none => rw [e2] at e; cases e
  | some b' =>
    rw [e2] at e
    cases e
    refine ⟨b, wk ▸ tru_of rv e2, ?_⟩
    have z : (pTruth d >>= k) h = k b h := by
      show (pTruth d h).next k = _
      unfold pTruth
      rw [e2]
      rfl
    rw [z] at o
    exact o
theorem R_and {rest : List Expr} (ha : PE X a (tE X.K gd Ex ma)) (hb : PE X (.BoolOp .And (b :: rest) pos) (tE X.K gd Ex mb)) : PE X (.BoolOp .And (a :: b :: rest) pos) (tE X.K gd Ex (eAnd ma mb)) := by
  refine PE.imp (pe_andT ha hb) fun σ H Q h => ?_
  obtain ⟨w, h, aσ, wk, wg, rfl, r, s, o⟩ := h
  refine tE_bind wk wg r s o fun d h1 w1 v s1 k1 g1 r1 sl1 rv o1 => ?_
  obtain ⟨k, t, o2⟩ := tr_bind (X := X) o1 rv k1
  refine ⟨k, t, ?_⟩
  cases k with
  | true => rw [if_pos rfl] at o2 ⊢; exact ⟨w1, h1, aσ, k1, g1, rfl, r1, sl1, o2⟩
  | false => rw [if_neg Bool.false_ne_true] at o2 ⊢; exact out_val o2 r1 rv
theorem R_or {rest : List Expr} (ha : PE X a (tE X.K gd Ex ma)) (hb : PE X (.BoolOp .Or (b :: rest) pos) (tE X.K gd Ex mb)) : PE X (.BoolOp .Or (a :: b :: rest) pos) (tE X.K gd Ex (eOr ma mb)) := by
  refine PE.imp (pe_orT ha hb) fun σ H Q h => ?_
  obtain ⟨w, h, aσ, wk, wg, rfl, r, s, o⟩ := h
  refine tE_bind wk wg r s o fun d h1 w1 v s1 k1 g1 r1 sl1 rv o1 => ?_
  obtain ⟨k, t, o2⟩ := tr_bind (X := X) o1 rv k1
  refine ⟨k, t, ?_⟩
  cases k with
  | true => rw [if_pos rfl] at o2 ⊢; exact out_val o2 r1 rv
  | false => rw [if_neg Bool.false_ne_true] at o2 ⊢; exact ⟨w1, h1, aσ, k1, g1, rfl, r1, sl1, o2⟩
theorem R_not (ha : PE X a (tE X.K gd Ex ma)) : PE X (.UnaryOp .Not a pos) (tE X.K gd Ex (eNot ma)) := by
  refine PE.imp (pe_notT ha) fun σ H Q h => ?_
  obtain ⟨w, h, aσ, wk, wg, rfl, r, s, o⟩ := h
  refine tE_bind wk wg r s o fun d h1 w1 v s1 k1 g1 r1 sl1 rv o1 => ?_
  obtain ⟨k, t, o2⟩ := tr_bind (X := X) o1 rv k1
  exact ⟨k, t, out_val o2 r1 (by rw [rep_bl])⟩
variable {ta tb : T}
theorem R_ifx (ht : PT X c (tT X.K gd Ex ta)) (ha : PE X a (tE X.K gd Ex ma)) (hb : PE X b (tE X.K gd Ex mb)) : PE X (.IfExp c a b pos) (tE X.K gd Ex (eIf ta ma mb)) := by
  refine PE.imp (pe_ifExp ht ha hb) fun σ H Q h => ?_
  obtain ⟨w, h, aσ, wk, wg, rfl, r, s, o⟩ := h
  refine tT_bind wk wg r s o fun d h1 w1 s1 k1 g1 r1 sl1 o1 => ?_
  cases d with
  | true => rw [if_pos rfl] at o1 ⊢; exact ⟨w1, h1, aσ, k1, g1, rfl, r1, sl1, o1⟩
  | false => rw [if_neg Bool.false_ne_true] at o1 ⊢; exact ⟨w1, h1, aσ, k1, g1, rfl, r1, sl1, o1⟩
/-! ### tests -/
theorem trB {w : Wd} {h : List O} {d : D} {v : V} {P : Bool → List O → Wd → Prop} (o : Out w Ex (pTruth d h) P) (rv : Rep w d v) (wk : w.K = X.K) : ∃ b, TruV X.K v w.H b ∧ Out w Ex ((ret b : M Bool) h) P := by
  obtain ⟨b, e, o2⟩ := out_optB o
  exact ⟨b, wk ▸ tru_of rv e, o2⟩
theorem R_tru (ha : PE X a (tE X.K gd Ex ma)) (he : ∀ whole, isTrue a X.env whole = (do let v ← whole; standAt a.pos; holding [v] (truthy v))) : PT X a (tT X.K gd Ex (tOf ma)) := by
  refine PT.imp (pt_truth ha he) fun σ H Q h => ?_
  obtain ⟨w, h, aσ, wk, wg, rfl, r, s, o⟩ := h
  refine tE_bind wk wg r s o fun d h1 w1 v s1 k1 g1 r1 sl1 rv o1 => ?_
  obtain ⟨b, t, o2⟩ := trB (X := X) o1 rv k1
  exact ⟨b, t, out_ret o2 r1⟩
/-- a comparison as a test: its answer is True or False -/
def Boolean (f : D → D → M D) : Prop := ∀ x y h, match f x y h with | .ok d _ => ∃ b, d = .bl b | _ => True
theorem pt_cmpM {op : CmpOp} {f : D → D → M D} (ho : OpR X (compareOp op) (r2 X.K gd Ex f)) (hf : Boolean f) (ha : PE X a (tE X.K gd Ex ma)) (hb : PE X b (tE X.K gd Ex mb)) (hm : behindInMarks op b = false) : PT X (.Compare a [op] [b] pos) (tT X.K gd Ex (tOf (e2 f ma mb))) := by
  refine PT.imp (pt_cmpR ho ha hb hm) fun σ H Q h => ?_
  obtain ⟨w, h, aσ, wk, wg, rfl, r, s, o⟩ := h
  have o : Out w Ex ((ma aσ >>= fun x => (mb aσ >>= fun y => f x y) >>= pTruth) h) (fun b _ w' => Q b w'.H) := by
    have z : (tOf (e2 f ma mb) aσ) h = (ma aσ >>= fun x => (mb aσ >>= fun y => f x y) >>= pTruth) h := by
      show ((ma aσ h).next fun x h1 => ((mb aσ h1).next fun y => f x y)).next pTruth = (ma aσ h).next fun x h1 => ((mb aσ h1).next fun y => f x y).next pTruth
      cases ma aσ h <;> rfl
    rw [← z]; exact o
  unfold L2.tTest L2.tOp
  refine tE_bind wk wg r s o fun d h1 w1 v s1 k1 g1 r1 sl1 rv o1 => ?_
  have o1 : Out w1 Ex ((mb aσ >>= fun y => f d y >>= pTruth) h1) (fun b _ w' => Q b w'.H) := by
    have z : ((mb aσ >>= fun y => f d y) >>= pTruth) h1 = (mb aσ >>= fun y => f d y >>= pTruth) h1 := by
      show ((mb aσ h1).next fun y => f d y).next pTruth = (mb aσ h1).next fun y h2 => (f d y h2).next pTruth
      cases mb aσ h1 <;> rfl
    rw [← z]; exact o1
  show tE X.K gd Ex mb σ w1.H _
  refine tE_bind k1 g1 r1 sl1 o1 fun d2 h2 w2 v2 s2 k2 g2 r2 sl2 rv2 o2 => ?_
  refine ⟨w2, h2, d, d2, k2, g2, rfl, r2, Rep.step s2.step _ _ rv, rv2, ?_⟩
  have o3 := Out.bind o2
  have hb2 := hf d d2 h2
  cases e : f d d2 h2 with
  | no => rw [e] at o3; exact o3
  | er c vs h3 => rw [e] at o3; exact o3
  | ok z h3 =>
    rw [e] at o3 hb2
    intro w3 s3 r3 vz rz
    obtain ⟨k, rfl⟩ := hb2
    rw [rep_bl] at rz
    exact ⟨k, rz, out_ret (o3 w3 s3 r3) r3⟩
theorem bool_cmp {f : Int → Int → Bool} {g : List Nat → List Nat → Bool} : Boolean (pCmp f g) := fun x y h => by
  cases x <;> cases y <;> first | trivial | exact ⟨_, rfl⟩
theorem bool_eq : Boolean pEq := fun x y h => by
  unfold pEq; split <;> first | (rename_i e; split at e <;> first | (cases e; exact ⟨_, rfl⟩) | cases e) | trivial
theorem bool_ne : Boolean pNe := fun x y h => by
  unfold pNe; split <;> first | (rename_i e; split at e <;> first | (cases e; exact ⟨_, rfl⟩) | cases e) | trivial
theorem bool_in : Boolean pIn := fun x y h => by
  unfold pIn; cases inD x y <;> first | exact ⟨_, rfl⟩ | trivial
theorem bool_notin : Boolean pNotIn := fun x y h => by
  unfold pNotIn; cases inD x y <;> first | exact ⟨_, rfl⟩ | trivial
theorem chain_bl {f g : D → D → M D} (hg : Boolean g) {aσ : S} {h h' : List O} {d : D} (e : eChain f g ma mb mc aσ h = .ok d h') : ∃ b, d = .bl b := by
  have e : ((ma aσ h).next fun x => mb aσ >>= fun y => f x y >>= fun z => match z with
    | .bl true => mc aσ >>= fun w => g y w
    | .bl false => ret (.bl false)
    | _ => no) = .ok d h' := e
  cases e1 : ma aσ h with
  | no => rw [e1] at e; cases e
  | er _ _ _ => rw [e1] at e; cases e
  | ok x h1 =>
    rw [e1] at e
    have e : ((mb aσ h1).next fun y => f x y >>= fun z => match z with
      | .bl true => mc aσ >>= fun w => g y w
      | .bl false => ret (.bl false)
      | _ => no) = .ok d h' := e
    cases e2 : mb aσ h1 with
    | no => rw [e2] at e; cases e
    | er _ _ _ => rw [e2] at e; cases e
    | ok y h2 =>
      rw [e2] at e
      have e : ((f x y h2).next fun z => match z with
        | .bl true => mc aσ >>= fun w => g y w
        | .bl false => ret (.bl false)
        | _ => no) = .ok d h' := e
      cases e3 : f x y h2 with
      | no => rw [e3] at e; cases e
      | er _ _ _ => rw [e3] at e; cases e
      | ok z h3 =>
        rw [e3] at e
        match z, e with
        | .bl true, e =>
          have e : ((mc aσ h3).next fun w => g y w) = .ok d h' := e
          cases e4 : mc aσ h3 with
          | no => rw [e4] at e; cases e
          | er _ _ _ => rw [e4] at e; cases e
          | ok w h4 =>
            rw [e4] at e
            have q := hg y w h4
            have e : g y w h4 = .ok d h' := e
            rw [e] at q
            exact q
        | .bl false, e => cases e; exact ⟨_, rfl⟩
/-- a chain of comparisons as a test -/
theorem T_chain {op op' : CmpOp} {f g : D → D → M D} (ho : OpR X (compareOp op) (r2 X.K gd Ex f)) (ho' : OpR X (compareOp op') (r2 X.K gd Ex g)) (hgb : Boolean g) (ha : PE X a (tE X.K gd Ex ma)) (hb : PE X b (tE X.K gd Ex mb)) (hc : PE X c (tE X.K gd Ex mc))
    (hm : lastMarks [op, op'] [b, c] = false) : PT X (.Compare a [op, op'] [b, c] pos) (tT X.K gd Ex (tOf (eChain f g ma mb mc))) := by
  refine PT.imp (pt_chain ho ho' ha hb hc hm) fun σ H Q h => chain_imp ?_
  obtain ⟨w, h, aσ, wk, wg, rfl, r, s, o⟩ := h
  refine ⟨w, h, aσ, wk, wg, rfl, r, s, ?_⟩
  have o' : Out w Ex (eChain f g ma mb mc aσ h) (fun a h1 w1 => Out w1 Ex (pTruth a h1) (fun b _ w' => Q b w'.H)) := Out.bind o
  cases e : eChain f g ma mb mc aσ h with
  | no => rw [e] at o'; exact o'
  | er c vs h1 => rw [e] at o'; exact o'
  | ok d h1 =>
    rw [e] at o'
    obtain ⟨k, rfl⟩ := chain_bl hgb e
    intro w1 s1 r1 v rv
    rw [rep_bl] at rv
    exact ⟨k, rv, out_ret (o' w1 s1 r1) r1⟩
theorem R_tand1 {x : Expr} (h : PT X x (tT X.K gd Ex ta)) : PW X (.BoolOp .And [x] pos) (tT X.K gd Ex ta) := pw_and1 h
theorem R_tor1 {x : Expr} (h : PT X x (tT X.K gd Ex ta)) : PW X (.BoolOp .Or [x] pos) (tT X.K gd Ex ta) := pw_or1 h
theorem PW.imp {e : Expr} {t t' : TT} (h : PW X e t) (i : ∀ σ H Q, t' σ H Q → t σ H Q) : PW X e t' := ⟨fun wh pins s σ H Q I q => h.run wh pins s σ H Q I (i σ H Q q)⟩
theorem R_tand {x y : Expr} {rest : List Expr} (ha : PT X x (tT X.K gd Ex ta)) (hb : PW X (.BoolOp .And (y :: rest) pos) (tT X.K gd Ex tb)) : PW X (.BoolOp .And (x :: y :: rest) pos) (tT X.K gd Ex (tAnd ta tb)) := by
  refine PW.imp (pw_and ha hb) fun σ H Q h => ?_
  obtain ⟨w, h, aσ, wk, wg, rfl, r, s, o⟩ := h
  refine tT_bind wk wg r s o fun d h1 w1 s1 k1 g1 r1 sl1 o1 => ?_
  cases d with
  | true => rw [if_pos rfl] at o1 ⊢; exact ⟨w1, h1, aσ, k1, g1, rfl, r1, sl1, o1⟩
  | false => rw [if_neg Bool.false_ne_true] at o1 ⊢; exact out_ret o1 r1
theorem R_tor {x y : Expr} {rest : List Expr} (ha : PT X x (tT X.K gd Ex ta)) (hb : PW X (.BoolOp .Or (y :: rest) pos) (tT X.K gd Ex tb)) : PW X (.BoolOp .Or (x :: y :: rest) pos) (tT X.K gd Ex (tOr ta tb)) := by
  refine PW.imp (pw_or ha hb) fun σ H Q h => ?_
  obtain ⟨w, h, aσ, wk, wg, rfl, r, s, o⟩ := h
  refine tT_bind wk wg r s o fun d h1 w1 s1 k1 g1 r1 sl1 o1 => ?_
  cases d with
  | true => rw [if_pos rfl] at o1 ⊢; exact out_ret o1 r1
  | false => rw [if_neg Bool.false_ne_true] at o1 ⊢; exact ⟨w1, h1, aσ, k1, g1, rfl, r1, sl1, o1⟩
theorem R_tnot {x : Expr} (h : PT X x (tT X.K gd Ex ta)) : PT X (.UnaryOp .Not x pos) (tT X.K gd Ex (tNot ta)) := by
  refine PT.imp (pt_not h) fun σ H Q h => ?_
  obtain ⟨w, h, aσ, wk, wg, rfl, r, s, o⟩ := h
  exact tT_bind wk wg r s o fun d h1 w1 s1 k1 g1 r1 sl1 o1 => out_ret o1 r1
/-! ### argument lists, displays -/
theorem A_nil : PA X [] (tA X.K gd Ex []) := by
  refine PA.imp pa_nil fun σ H Q h => ?_
  obtain ⟨w, h, aσ, wk, wg, rfl, r, s, o⟩ := h
  exact out_ret o r [] .nil
theorem A_cons {es : List Expr} {ms : List E} (ha : PE X a (tE X.K gd Ex ma)) (hr : PA X es (tA X.K gd Ex ms)) (hs : starEach (a :: es) X.env = (false, eval a X.env) :: starEach es X.env := by rfl) : PA X (a :: es) (tA X.K gd Ex (ma :: ms)) := by
  refine PA.imp (pa_cons ha hr hs) fun σ H Q h => ?_
  obtain ⟨w, h, aσ, wk, wg, rfl, r, s, o⟩ := h
  refine tE_bind wk wg r s o fun d h1 w1 v s1 k1 g1 r1 sl1 rv o1 => tA_bind k1 g1 r1 sl1 o1 fun ds h2 w2 vs s2 k2 g2 r2 sl2 rvs o2 => ?_
  exact out_ret o2 r2 _ (.cons (Rep.step s2.step _ _ rv) rvs)
variable {es : List Expr} {ms : List E}
/-- the size of what is laid is the number of the written items -/
theorem evs_len : ∀ {ms : List E} {σ : S} {h h' : List O} {ds : List D}, evs ms σ h = .ok ds h' → ds.length = ms.length
  | [], σ, h, h', ds, e => by cases e; rfl
  | m :: ms, σ, h, h', ds, e => by
    have e' : ((m σ h).next fun x => fun h1 => ((evs ms σ h1).next fun xs => ret (x :: xs))) = .ok ds h' := e
    cases e1 : m σ h with
    | no => rw [e1] at e'; cases e'
    | er c vs h1 => rw [e1] at e'; cases e'
    | ok x h1 =>
      rw [e1] at e'
      have e3 : ((evs ms σ h1).next fun xs => ret (x :: xs)) = .ok ds h' := e'
      cases e2 : evs ms σ h1 with
      | no => rw [e2] at e3; cases e3
      | er c vs h1 => rw [e2] at e3; cases e3
      | ok xs h2 =>
        rw [e2] at e3
        cases e3
        rw [List.length_cons, List.length_cons, evs_len e2]
theorem Out.with {α : Type} {w : Wd} {Xk : XK} {r : R α} {P : α → List O → Wd → Prop} (h : Out w Xk r P) : Out w Xk r (fun a h' w' => r = .ok a h' ∧ P a h' w') := by
  cases r with
  | no => exact h
  | er c vs hh => exact h
  | ok a h1 => exact fun w' s r => ⟨rfl, h w' s r⟩
theorem tA_bindL {w : Wd} {h : List O} {σ : L2.St} {aσ : S} {β : Type} {k : List D → M β} {P : β → List O → Wd → Prop} {Q : List V → Hp → Prop}
    (wk : w.K = X.K) (wg : w.gd = gd) (r : RelH w h) (s : SlE w σ aσ) (o : Out w Ex ((evs ms aσ >>= k) h) P)
    (hq : ∀ (d : List D) (h1 : List O) (w1 : Wd) (v : List V), XS w w1 → w1.K = X.K → w1.gd = gd → RelH w1 h1 → SlE w1 σ aσ → Reps w1 d v → d.length = ms.length → Out w1 Ex (k d h1) P → Q v w1.H) : tA X.K gd Ex ms σ w.H Q := by
  refine ⟨w, h, aσ, wk, wg, rfl, r, s, ?_⟩
  have o' : Out w Ex (evs ms aσ h) (fun a h1 w1 => Out w1 Ex (k a h1) P) := Out.bind o
  cases e : evs ms aσ h with
  | no => rw [e] at o'; exact o'
  | er c vs h1 => rw [e] at o'; exact o'
  | ok d h1 =>
    rw [e] at o'
    exact fun w1 s1 r1 v rv => hq d h1 w1 v s1 (s1.k.trans wk) (s1.g.trans wg) r1 (s.xs s1 r) rv (evs_len e) (o' w1 s1 r1)
theorem R_tup {k : Nat} (h : PA X es (tA X.K gd Ex ms)) (hz : ms.length ≤ 1000 := by decide) : PE X (.Tuple es k pos) (tE X.K gd Ex (eTup ms)) := by
  refine PE.imp (pe_tup h) fun σ H Q h => ?_
  obtain ⟨w, h, aσ, wk, wg, rfl, r, s, o⟩ := h
  refine tA_bindL wk wg r s o fun ds h1 w1 vs s1 k1 g1 r1 sl1 rv hl o1 => ⟨by rw [rv.length, hl]; exact Nat.le_trans hz (by decide), fun p hp => ?_⟩
  exact out_put o1 r1 hp (rep_tup r1 hp rv)
theorem R_lst (h : PA X es (tA X.K gd Ex ms)) (hz : ms.length ≤ 1000 := by decide) : PE X (.List es pos) (tE X.K gd Ex (eLst ms)) := by
  refine PE.imp (pe_lst h) fun σ H Q h => ?_
  obtain ⟨w, h, aσ, wk, wg, rfl, r, s, o⟩ := h
  refine tA_bindL wk wg r s o fun ds h1 w1 vs s1 k1 g1 r1 sl1 rv hl o1 => ⟨by rw [rv.length, hl]; exact Nat.le_trans hz (by decide), fun p hp => ?_⟩
  exact out_put o1 r1 hp (rep_lst r1 hp rv)
/-- a new list, known to the heap -/
def Wd.ext (w : Wd) (p : Addr) (o : HO) : Wd := { w with H := upd w.H p o, ρ := w.ρ ++ [p] }
theorem xs_ext {w : Wd} {p : Addr} {o : HO} (hp : w.H p = none) : XS w (w.ext p o) :=
  ⟨rfl, rfl, rfl, List.prefix_append _ _, fun b u e n _ => ⟨by show upd w.H p o b = _; rw [upd_ne (ne_of_none e hp)]; exact e, fun hm => by
    rcases List.mem_append.mp hm with z | z
    · exact n z
    · rw [List.mem_singleton.mp z, hp] at e; cases e⟩⟩
theorem RelH.ext {w : Wd} {h : List O} (r : RelH w h) {p : Addr} {ds : List D} {xs : List V} (hp : w.H p = none) (rs : Reps w ds xs) : RelH (w.ext p (.lst xs)) (h ++ [.lst ds]) := by
  have a := xs_ext (o := .lst xs) hp
  have np : p ∉ w.ρ := (r.frz_new hp).2
  refine ⟨by show (w.ρ ++ [p]).length = _; rw [List.length_append, List.length_append, r.len]; rfl, ?_, fun i ob c e1 e2 => ?_, fun b hb => ?_, tabs_put r.tT hp⟩
  · show (w.ρ ++ [p]).Nodup
    rw [List.nodup_append]
    refine ⟨r.nd, by simp, fun x hx y hy => ?_⟩
    rw [List.mem_singleton] at hy
    subst hy
    exact fun z => np (z ▸ hx)
  · by_cases hi : i < h.length
    · rw [List.getElem?_append_left hi] at e1
      have e2 : (w.ρ ++ [p])[i]? = some c := e2
      rw [List.getElem?_append_left (by rw [r.len]; exact hi)] at e2
      have q := r.obj i ob c e1 e2
      cases ob with
      | lst ds =>
        obtain ⟨xs', e, q⟩ := q
        exact ⟨xs', by show upd w.H p _ c = _; rw [upd_ne (ne_of_none e hp)]; exact e, q.xs a⟩
      | ins c' ns vs =>
        obtain ⟨C, dx, fs, g, e, en, q⟩ := q
        exact ⟨C, dx, fs, g, by show upd w.H p _ c = _; rw [upd_ne (ne_of_none e hp)]; exact e, en, q.xs a⟩
    · have hi' : i = h.length := by
        have := (List.getElem?_eq_some_iff.mp e1).1
        rw [List.length_append] at this
        simp at this
        omega
      subst hi'
      rw [List.getElem?_append_right (Nat.le_refl _), Nat.sub_self] at e1
      have e2 : (w.ρ ++ [p])[h.length]? = some c := e2
      rw [List.getElem?_append_right (by rw [r.len]; exact Nat.le_refl _), r.len, Nat.sub_self] at e2
      cases e1
      cases e2
      exact ⟨xs, upd_same, rs.xs a⟩
  · obtain ⟨⟨u, e, n⟩, m⟩ := r.own b hb
    exact ⟨⟨u, by show upd w.H p _ b = _; rw [upd_ne (ne_of_none e hp)]; exact e, n⟩, fun hm => by
      rcases List.mem_append.mp hm with z | z
      · exact m z
      · rw [List.mem_singleton.mp z, hp] at e; cases e⟩
theorem R_newref (h : PA X es (tA X.K gd Ex ms)) (hz : ms.length ≤ 1000 := by decide) : PE X (.List es pos) (tE X.K gd Ex (eNewRef ms)) := by
  refine PE.imp (pe_lst h) fun σ H Q h => ?_
  obtain ⟨w, h, aσ, wk, wg, rfl, r, s, o⟩ := h
  refine tA_bindL wk wg r s o fun ds h1 w1 vs s1 k1 g1 r1 sl1 rv hl o1 => ⟨by rw [rv.length, hl]; exact Nat.le_trans hz (by decide), fun p hp => ?_⟩
  exact o1 (w1.ext p (.lst vs)) (xs_ext hp) (r1.ext hp rv) _ (by
    rw [rep_ref_iff]
    exact ⟨p, by show (w1.ρ ++ [p])[h1.length]? = _; rw [List.getElem?_append_right (by rw [r1.len]; exact Nat.le_refl _), r1.len, Nat.sub_self]; rfl, rfl⟩)
/-! ### slices -/
theorem po_no : PO X none tNoPart := po_none
theorem R_slice {lo hi : Option Expr} {ml mh : Option E} {p2 : Pos} (ha : PE X a (tE X.K gd Ex ma))
    (hl : (lo = none ∧ ml = none) ∨ ∃ e m, lo = some e ∧ ml = some m ∧ PE X e (tE X.K gd Ex m)) (hh : (hi = none ∧ mh = none) ∨ ∃ e m, hi = some e ∧ mh = some m ∧ PE X e (tE X.K gd Ex m)) :
    PE X (.Subscript a (.Slice lo hi none p2) pos) (tE X.K gd Ex (eSlice ma ml mh)) := by
  -- the parts
  have part : ∀ {o : Option Expr} {m : Option E}, ((o = none ∧ m = none) ∨ ∃ e m', o = some e ∧ m = some m' ∧ PE X e (tE X.K gd Ex m')) →
      ∃ t, PO X o t ∧ ∀ {w : Wd} {h : List O} {σ : L2.St} {aσ : S} {k : Option Int → M D} {P : D → List O → Wd → Prop} {Q : Option Int → Hp → Prop}, w.K = X.K → w.gd = gd → RelH w h → SlE w σ aσ → Out w Ex ((optInt m aσ >>= k) h) P →
        (∀ i h1 w1, XS w w1 → w1.K = X.K → w1.gd = gd → RelH w1 h1 → SlE w1 σ aσ → Out w1 Ex (k i h1) P → Q i w1.H) → t σ w.H Q := by
    intro o m hm
    rcases hm with ⟨rfl, rfl⟩ | ⟨e, m', rfl, rfl, he⟩
    · exact ⟨_, po_none, fun {w h σ aσ k P Q} wk wg r s o hq => hq none h w (XS.refl w) wk wg r s o⟩
    · refine ⟨_, po_some he, fun {w h σ aσ k P Q} wk wg r s o hq => ?_⟩
      have z : (optInt (some m') aσ >>= k) h = (m' aσ >>= fun x => (match x with | .int i => ret (some i) | _ => no) >>= k) h := by
        show ((m' aσ h).next _).next k = (m' aσ h).next _
        cases m' aσ h <;> rfl
      rw [z] at o
      show tE X.K gd Ex m' σ w.H _
      refine tE_bind wk wg r s o fun d h1 w1 v s1 k1 g1 r1 sl1 rv o1 => ?_
      cases d with
      | int i =>
        rw [rep_int] at rv
        exact ⟨i, rv, hq (some i) h1 w1 s1 k1 g1 r1 sl1 o1⟩
      | _ => exact o1.elim
  obtain ⟨tl, pl, ql⟩ := part hl
  obtain ⟨th, ph, qh⟩ := part hh
  refine PE.imp (pe_slice (o_slice (gd := gd) (Ex := Ex)) ha pl ph) fun σ H Q h => ?_
  obtain ⟨w, h, aσ, wk, wg, rfl, r, s, o⟩ := h
  show tE X.K gd Ex ma σ w.H _
  refine tE_bind wk wg r s o fun d h1 w1 v s1 k1 g1 r1 sl1 rv o1 => ?_
  refine ql k1 g1 r1 sl1 o1 fun i h2 w2 s2 k2 g2 r2 sl2 o2 => ?_
  refine qh k2 g2 r2 sl2 o2 fun j h3 w3 s3 k3 g3 r3 sl3 o3 => ?_
  exact ⟨w3, h3, d, k3, g3, rfl, r3, Rep.step (s2.trans s3).step _ _ rv, o3⟩
/-! ### built-ins of one value -/
theorem R_callB {x : Str} {id : String} {f : D → M D} {p : Pos} (hc : CallR X (.builtin id) (c1 X.K gd Ex f)) (hg : Gl X x) (hm : X.mg x = none) (hv : bootBuiltins x = some (.builtin id)) (ha : PE X a (tE X.K gd Ex ma))
    (hn : x ≠ "__name__" := by decide) (hdb : (x == ("__debug__" : Str)) = false := by decide) (hs : starEach [a] X.env = (false, eval a X.env) :: starEach [] X.env := by rfl) : PE X (.Call (.Name x p) [a] [] pos) (tE X.K gd Ex (e1 f ma)) := by
  refine PE.imp (pe_callB hc hg hm hv (pa_cons ha pa_nil hs) hn hdb hs) fun σ H Q h => ?_
  exact tE_1 (R := fun x H1 Q => c1 X.K gd Ex f [x] H1 Q) h fun x H1 q => ⟨x, rfl, q⟩
theorem R_callTy {x : Str} {T : String} {f : D → M D} {p : Pos} (hc : CallR X (.type T) (c1 X.K gd Ex f)) (hg : Gl X x) (hm : X.mg x = none) (hv : bootBuiltins x = some (.type T)) (ha : PE X a (tE X.K gd Ex ma))
    (hn : x ≠ "__name__" := by decide) (hdb : (x == ("__debug__" : Str)) = false := by decide) (hs : starEach [a] X.env = (false, eval a X.env) :: starEach [] X.env := by rfl) : PE X (.Call (.Name x p) [a] [] pos) (tE X.K gd Ex (e1 f ma)) := by
  refine PE.imp (pe_callTy hc hg hm hv (pa_cons ha pa_nil hs) hn hdb hs) fun σ H Q h => ?_
  exact tE_1 (R := fun x H1 Q => c1 X.K gd Ex f [x] H1 Q) h fun x H1 q => ⟨x, rfl, q⟩
end
end Cf
set_option Elab.async false
set_option linter.all false
set_option maxRecDepth 100000
set_option maxHeartbeats 2000000
/-! CfF: what is walked: lists, tuples, texts, ranges, zip of any two. -/
namespace Cf
open PySem PySem.Spec PyProof.Rows L2

/-- a source of items -/
inductive Src where
  | l (a : Addr) (xs : List V)
  | t (a : Addr) (xs : List V)
  | s (x : Str) (tk : Tok)
def Src.at_ (K : PySem.W.Frag) : Src → Hp → Prop
  | .l a xs, H => SqL K H a xs
  | .t a xs, H => SqT K H a xs
  | .s _ _, _ => True
def Src.its : Src → List V
  | .l _ xs => xs
  | .t _ xs => xs
  | .s x _ => x.cps.toList.map fun c => .str ⟨#[c]⟩
def Src.old : Src → List Addr
  | .l a _ => [a]
  | .t a _ => [a]
  | .s _ _ => []
def Src.tn (it : Addr) : Src → Nat → Heap → Prop
  | .l a _, i, h => h.IsListIter it a i
  | .t a _, i, h => h.IsTupleIter it a i
  | .s x tk, i, h => h.IsStrIter it (strIterType x) x tk i
def Src.val : Src → Value
  | .l a _ => .ref a
  | .t a _ => .ref a
  | .s x tk => .str x tk
def Src.o : Src → Obj
  | .l a _ => { cls := .type "list_iterator", data := .fields #[.ref a, .int 0 0] }
  | .t a _ => { cls := .type "tuple_iterator", data := .fields #[.ref a, .int 0 0] }
  | .s x tk => { cls := .type (strIterType x), data := .fields #[.str x tk, .int 0 0] }
theorem Src.tn_obj {r : Src} {it : Addr} {i : Nat} {h : Heap} (t : r.tn it i h) : ∃ o, h.get? it = some o ∧ ∀ v, o.data ≠ .cell v := by
  cases r with
  | l a xs => obtain ⟨o, e, _, d⟩ := t; exact ⟨o, e, fun v q => by rw [d] at q; cases q⟩
  | t a xs => obtain ⟨o, e, _, d⟩ := t; exact ⟨o, e, fun v q => by rw [d] at q; cases q⟩
  | s x tk => obtain ⟨o, e, _, d⟩ := t; exact ⟨o, e, fun v q => by rw [d] at q; cases q⟩
theorem Src.tn_keep {r : Src} {it : Addr} {i : Nat} {h h' : Heap} (t : r.tn it i h) (k : ∀ o, h.get? it = some o → h'.get? it = some o) : r.tn it i h' := by
  cases r with
  | l a xs => obtain ⟨o, e, q⟩ := t; exact ⟨o, k o e, q⟩
  | t a xs => obtain ⟨o, e, q⟩ := t; exact ⟨o, k o e, q⟩
  | s x tk => obtain ⟨o, e, q⟩ := t; exact ⟨o, k o e, q⟩
/-- the library's view of a source, as it stands -/
theorem Src.draws {X : Cx} {pins : List (Addr × Obj)} {σ : L2.St} {H : Hp} {s : Shared} (I : Inv X pins σ H s) {A : Around} (hh : A.handled = none) {r : Src} (ha : r.at_ X.K H) {it : Addr} {i : Nat} (hne : it ∉ r.old) (t : r.tn it i s.heap) :
    ∃ (P : Nat → Value → Prop) (St : Nat → Heap → Prop), Draws X.prog X.w A it (it :: r.old) r.its.length P St ∧ St i s.heap ∧ (∀ j x, P j x → ∃ v, r.its[j]? = some v ∧ RelV v x) ∧ ∀ j h, St j h → r.tn it j h := by
  cases r with
  | l a xs =>
    obtain ⟨its, rv, p, hz⟩ := I.list ha
    have hn : a ≠ it := fun z => hne (by rw [← z]; exact List.mem_cons_self)
    have D := Draws.list (prog := X.prog) (w := X.w) hh it a hn its.toArray
    rw [show its.toArray.size = xs.length by rw [List.size_toArray, rv.length]] at D
    refine ⟨_, _, D, ⟨t, p.isList⟩, fun j x hx => ?_, fun j h st => st.1⟩
    have hx' : its[j]? = some x := by simpa using hx
    have hj : j < xs.length := by rw [rv.length]; exact (List.getElem?_eq_some_iff.mp hx').1
    obtain ⟨u, hu, ru⟩ := rv.get (List.getElem?_eq_getElem hj)
    rw [hx'] at hu; cases hu
    exact ⟨_, List.getElem?_eq_getElem hj, ru⟩
  | t a xs =>
    obtain ⟨its, rv, p, hz⟩ := I.tuple ha
    have hn : a ≠ it := fun z => hne (by rw [← z]; exact List.mem_cons_self)
    have D := Draws.tuple (prog := X.prog) (w := X.w) hh it a hn its.toArray
    rw [show its.toArray.size = xs.length by rw [List.size_toArray, rv.length]] at D
    refine ⟨_, _, D, ⟨t, p⟩, fun j x hx => ?_, fun j h st => st.1⟩
    have hx' : its[j]? = some x := by simpa using hx
    have hj : j < xs.length := by rw [rv.length]; exact (List.getElem?_eq_some_iff.mp hx').1
    obtain ⟨u, hu, ru⟩ := rv.get (List.getElem?_eq_getElem hj)
    rw [hx'] at hu; cases hu
    exact ⟨_, List.getElem?_eq_getElem hj, ru⟩
  | s x tk =>
    have D := Draws.text (prog := X.prog) (w := X.w) hh it x tk
    have e : (Src.s x tk).its.length = x.cps.size := by simp [Src.its]
    rw [← e] at D
    refine ⟨_, _, D, t, fun j y hy => ?_, fun j h st => st⟩
    obtain ⟨c, u, hc, rfl⟩ := hy
    have hc' : x.cps.toList[j]? = some c := by simpa using hc
    exact ⟨.str ⟨#[c]⟩, by show (x.cps.toList.map _)[j]? = _; rw [List.getElem?_map, hc']; rfl, u, rfl⟩

/-! ### zip -/
def ItZ (K : PySem.W.Frag) (r q : Src) : It :=
  ⟨fun i H => r.at_ K H ∧ q.at_ K H ∧ i < r.its.length ∧ i < q.its.length,
    fun i H v H' => ∃ T x y, v = .ref T ∧ H T = none ∧ H' = upd H T (.tup [x, y]) ∧ r.its[i]? = some x ∧ q.its[i]? = some y,
    fun i H => r.at_ K H ∧ q.at_ K H ∧ i ≤ r.its.length ∧ i ≤ q.its.length ∧ (i = r.its.length ∨ i = q.its.length)⟩
structure Sep (r q : Src) (z TI TO i1 i2 : Addr) : Prop where
  s : ZipSep2 z TI TO i1 i2 (i1 :: r.old) (i2 :: q.old)
  n1 : i1 ∉ r.old
  n2 : i2 ∉ q.old
theorem turn_zipG {P : Program} {w : World} {K : PySem.W.Frag} {elts : List Expr} {kk : Nat} {tpos : Pos} {r q : Src} {z TI TO i1 i2 : Addr} (D : Sep r q z TI TO i1 i2) :
    Turn P w K (.Tuple elts kk tpos) (ItZ K r q) [z, TI, TO, i1, i2] z (fun i h => IsZip h z TI TO .none ∧ IsTupOf2 h TI (.ref i1) (.ref i2) ∧ (∃ x y, IsTupOf2 h TO x y) ∧ r.tn i1 i h ∧ q.tn i2 i h) where
  mem := by simp
  obj := fun i h st c hc => by
    obtain ⟨hz, hTI, ⟨x, y, hTO⟩, h1, h2⟩ := st
    have e' : c = z ∨ c = TI ∨ c = TO ∨ c = i1 ∨ c = i2 := by simpa using hc
    rcases e' with e | e | e | e | e
    · rw [e]; exact ⟨_, hz, fun v q => nomatch q⟩
    · rw [e]; exact ⟨_, hTI, fun v q => nomatch q⟩
    · rw [e]; exact ⟨_, hTO, fun v q => nomatch q⟩
    · rw [e]; exact Src.tn_obj h1
    · rw [e]; exact Src.tn_obj h2
  keep := fun i h h' st k => by
    obtain ⟨hz, hTI, ⟨x, y, hTO⟩, h1, h2⟩ := st
    exact ⟨k z (by simp) _ hz, k TI (by simp) _ hTI, ⟨x, y, k TO (by simp) _ hTO⟩, Src.tn_keep h1 fun o e => k i1 (by simp) o e, Src.tn_keep h2 fun o e => k i2 (by simp) o e⟩
  item := by
    intro X hP hw hK hc i pins s σ H E I hf st hg
    subst hP hw hK
    obtain ⟨hz, hTI, ⟨x0, y0, hTO⟩, h1, h2⟩ := st
    obtain ⟨g1, g2, l1, l2⟩ := hg
    have hh : X.A.in1.handled = none := I.ok.hd hc
    obtain ⟨P1, St1, D1, st1, v1, b1⟩ := Src.draws I hh g1 D.n1 h1
    obtain ⟨P2, St2, D2, st2, v2, b2⟩ := Src.draws I hh g2 D.n2 h2
    have hzl : z < s.heap.objs.size := Heap.lt_size hz
    refine wpAny_pyNext_zipD2_item D.s D1 D2 hz hTI hTO st1 st2 l1 l2 fun u1 u2 h' tk p1 p2 z' TO' s1 s2 hT hsz hk => ?_
    obtain ⟨x, ex, rx⟩ := v1 i u1 p1
    obtain ⟨y, ey, ry⟩ := v2 i u2 p2
    refine ⟨_, rfl, wpAny_letOwnedTupleGo_zip (s := { s with heap := h', toks := tk }) z' fun h'' z'' sb => ?_⟩
    have hT2 : h''.get? s.heap.objs.size = some { cls := .type "tuple", data := .seq #[u1, u2] } := (sb.2 _ (Nat.ne_of_gt hzl)).trans hT
    have new : ObjOk X.prog X.w (upd H s.heap.objs.size (.tup [x, y])) h'' s.heap.objs.size (.tup [x, y]) :=
      ⟨by show 2 ≤ sizeLine; decide, [u1, u2], .cons rx (.cons ry .nil), ⟨_, hT2, rfl, _, rfl⟩⟩
    have I1 : Inv X pins σ (upd H s.heap.objs.size (.tup [x, y])) { s with heap := h'', toks := tk } :=
      I.turnedNew (t' := tk) (ch := [z, TI, TO, i1, i2]) (fun c o hb e => (sb.2 c (fun q' => hb (by simp [q']))).trans (hk c o (fun q' => hb (by simp [q'])) (fun q' => hb (by simp [q'])) (fun q' => hb (by simp [q'])) (fun q' => hb (by simp [q'])) e)) hf (Nat.le_refl _) new
    refine ⟨.ref s.heap.objs.size, _, I1, rfl, ⟨_, x, y, rfl, I.hok.fresh (Nat.le_refl _), rfl, ex, ey⟩, ⟨z'', ?_, ⟨u1, u2, ?_⟩, ?_, ?_⟩, fun c hcm => ?_⟩
    · exact (sb.2 _ D.s.TIz).trans (hk _ _ D.s.TIz D.s.TITO D.s.TIi1 D.s.TIi2 hTI)
    · exact (sb.2 _ D.s.TOz).trans TO'
    · exact Src.tn_keep (b1 _ _ s1) fun o e => (sb.2 _ D.s.zi1.symm).trans e
    · exact Src.tn_keep (b2 _ _ s2) fun o e => (sb.2 _ D.s.zi2.symm).trans e
    · have hlt : c < s.heap.objs.size := by
        have e' : c = z ∨ c = TI ∨ c = TO ∨ c = i1 ∨ c = i2 := by simpa using hcm
        rcases e' with e | e | e | e | e
        · rw [e]; exact hzl
        · rw [e]; exact Heap.lt_size hTI
        · rw [e]; exact Heap.lt_size hTO
        · rw [e]; obtain ⟨_, e1, _⟩ := Src.tn_obj h1; exact Heap.lt_size e1
        · rw [e]; obtain ⟨_, e1, _⟩ := Src.tn_obj h2; exact Heap.lt_size e1
      show upd H _ _ c = none
      rw [upd_ne (Nat.ne_of_lt hlt)]
      exact (hf c hcm).1
  done := by
    intro X hP hw hK hc i pins s σ H E I hf st hg
    subst hP hw hK
    obtain ⟨hz, hTI, ⟨x0, y0, hTO⟩, h1, h2⟩ := st
    obtain ⟨g1, g2, l1, l2, l3⟩ := hg
    have hh : X.A.in1.handled = none := I.ok.hd hc
    obtain ⟨P1, St1, D1, st1, v1, b1⟩ := Src.draws I hh g1 D.n1 h1
    obtain ⟨P2, St2, D2, st2, v2, b2⟩ := Src.draws I hh g2 D.n2 h2
    exact wpAny_pyNext_zipD2_end D.s D1 D2 hz hTI hTO st1 st2 l1 l2 l3 fun h' tk hk => ⟨rfl, I.turnedL (t' := tk) (ch := [z, TI, TO, i1, i2]) (fun c o hb e =>
      hk c o (fun q' => hb (by simp [q'])) (fun q' => hb (by simp [q'])) (fun q' => hb (by simp [q'])) (fun q' => hb (by simp [q'])) e) hf⟩
  self := fun A i s Q E st h => wpAny_pyIter_zip st.1 h
theorem Src.begins {X : Cx} {pins : List (Addr × Obj)} {σ : L2.St} {H : Hp} {s : Shared} (I : Inv X pins σ H s) {r : Src} (ha : r.at_ X.K H) : ∃ Hc, Begins r.val r.o Hc ∧ Hc s.heap ∧ ∀ b ∈ r.old, b < s.heap.objs.size := by
  cases r with
  | l a xs =>
    obtain ⟨its, rv, p, hz⟩ := I.list ha
    exact ⟨_, begins_list a its.toArray, p.isList, fun b hb => by rw [List.mem_singleton.mp hb]; exact p.lt⟩
  | t a xs =>
    obtain ⟨its, rv, p, hz⟩ := I.tuple ha
    obtain ⟨o, e, _⟩ := id p
    exact ⟨_, begins_tuple a its.toArray, p, fun b hb => by rw [List.mem_singleton.mp hb]; exact Heap.lt_size e⟩
  | s x tk => exact ⟨_, begins_text x tk, trivial, fun b hb => nomatch hb⟩
theorem Src.tn0 {r : Src} {it : Addr} {h : Heap} (e : h.get? it = some r.o) : r.tn it 0 h := by
  cases r <;> exact ⟨_, e, rfl, rfl⟩
def iZipG (K : PySem.W.Frag) (ta : TA) : TI := fun σ H R => ta σ H fun vs H1 => ∀ us : List Value, Vals vs us → ∃ r q : Src, us = [r.val, q.val] ∧ r.at_ K H1 ∧ q.at_ K H1 ∧ R (ItZ K r q) H1
theorem pi_zipG {X : Cx} {e e2 : Expr} {ta : TA} {p pos tpos : Pos} {elts : List Expr} {kk : Nat} (hg : Gl X "zip") (hm : X.mg "zip" = none) (ha : PA X [e, e2] ta)
    (hs : starEach [e, e2] X.env = (false, eval e X.env) :: starEach [e2] X.env := by rfl) (hpl : (backTo pos (starEach [e2] X.env)).any (·.1) = false := by rfl) :
    PI X (.Tuple elts kk tpos) (.Call (.Name "zip" p) [e, e2] [] pos) (iZipG X.K ta) := by
  refine ⟨fun pins s σ H R I h => ?_⟩
  refine Call_ (ld_blt I hg hm PyProof.Rows.boot_zip (PyProof.Rows.callWith_type1 (thn (ha.run pos pins s σ H _ I h) fun us s1 ⟨vs, H1, I1, rv, q1⟩ => ?_) hs hpl))
  obtain ⟨r, q, e, hr, hq, hR⟩ := q1 us rv
  subst e
  obtain ⟨Hc1, B1, k1, o1⟩ := Src.begins I1 hr
  obtain ⟨Hc2, B2, k2, o2⟩ := Src.begins I1 hq
  refine zip_begins2 B1 B2 k1 k2 fun h' hz hTI hTO g1 g2 hsz hk => wpAny_pyIter_zip hz ?_
  have I2 : Inv X pins σ H1 { s1 with heap := h' } := I1.kept (t' := s1.toks) hk
  refine ⟨s1.heap.objs.size + 4, [s1.heap.objs.size + 4, s1.heap.objs.size + 2, s1.heap.objs.size + 3, s1.heap.objs.size, s1.heap.objs.size + 1], _, _, H1, rfl, I2, turn_zipG ⟨zip_sep2 o1 o2, fun z => Nat.lt_irrefl _ (o1 _ z), fun z => absurd (o2 _ z) (Nat.not_lt.mpr (Nat.le_add_right _ _))⟩, ⟨hz, hTI, ⟨_, _, hTO⟩, Src.tn0 g1, Src.tn0 g2⟩, fun c hcm => ?_, hR⟩
  have e' : c = s1.heap.objs.size + 4 ∨ c = s1.heap.objs.size + 2 ∨ c = s1.heap.objs.size + 3 ∨ c = s1.heap.objs.size ∨ c = s1.heap.objs.size + 1 := by simpa using hcm
  have hle : s1.heap.objs.size ≤ c := by
    rcases e' with z | z | z | z | z
    · rw [z]; exact Nat.le_add_right _ _
    · rw [z]; exact Nat.le_add_right _ _
    · rw [z]; exact Nat.le_add_right _ _
    · rw [z]; exact Nat.le_refl _
    · rw [z]; exact Nat.le_add_right _ _
  exact I1.fpOk hle (I1.hok.fresh hle)

/-! ### one source -/
def Src.it (K : PySem.W.Frag) : Src → It
  | .l a _ => Itl K a
  | .t a _ => Itt K a
  | .s x _ => Its x
def iSrc (K : PySem.W.Frag) (te : TE) : TI := fun σ H R => te σ H fun v H1 => ∀ u, RelV v u → ∃ r : Src, u = r.val ∧ r.at_ K H1 ∧ R (r.it K) H1
theorem pi_src {X : Cx} {tg e : Expr} {te : TE} (he : PE X e te) : PI X tg e (iSrc X.K te) := by
  refine ⟨fun pins s σ H R I h => ?_⟩
  refine thn (he.run pins s σ H _ I h) fun v s1 ⟨x, H1, I1, rx, q⟩ => ?_
  obtain ⟨r, rfl, hr, hR⟩ := q v rx
  have fin : ∀ (o : Obj) (tn : Nat → Heap → Prop) (J : It), Turn X.prog X.w X.K tg J [s1.heap.objs.size] s1.heap.objs.size tn → tn 0 (s1.heap.push o) → R J H1 → PIE X pins σ tg R (.ref s1.heap.objs.size) { s1 with heap := s1.heap.push o } := fun o tn J T t0 hq => by
    refine ⟨s1.heap.objs.size, [s1.heap.objs.size], tn, J, H1, rfl, I1.kept (t' := s1.toks) fun b u e => Heap.get?_push_of_some _ e, T, t0, fun b hb => ?_, hq⟩
    rw [List.mem_singleton] at hb
    subst hb
    exact I1.fpOk (Nat.le_refl _) (I1.hok.fresh (Nat.le_refl _))
  cases r with
  | l a xs =>
    obtain ⟨its, rv, p, hz⟩ := I1.list hr
    exact wpAny_pyIter_list p.isList (fin _ _ _ (turn_list a _) ⟨_, Heap.get?_push_size _ rfl, rfl, rfl⟩ hR)
  | t a xs =>
    obtain ⟨its, rv, p, hz⟩ := I1.tuple hr
    exact wpAny_pyIter_tuple (show s1.heap.IsTuple a its.toArray from p) (fin _ _ _ (turn_tuple a _) ⟨_, Heap.get?_push_size _ rfl, rfl, rfl⟩ hR)
  | s x tk =>
    refine wpAny_pyIter_strU (fin _ _ _ (turn_str _ x tk (strIterType x) ?_) ⟨_, Heap.get?_push_size _ rfl, rfl, rfl⟩ hR)
    unfold strIterType
    split
    · exact .inl rfl
    · exact .inr rfl

/-! ### walks of data -/
structure WalkD (w0 : Wd) (ds : List D) (J : It) : Prop where
  go : ∀ (i : Nat) (w : Wd), Step w0 w → i < ds.length → J.go i w.H
  stop : ∀ (w : Wd), Step w0 w → J.stop ds.length w.H
  yld : ∀ (i : Nat) (w : Wd) (h : List O) (x : V) (H' : Hp), Step w0 w → RelH w h → i < ds.length → J.yld i w.H x H' → ∃ w' d, XS w w' ∧ w'.H = H' ∧ RelH w' h ∧ ds[i]? = some d ∧ Rep w' d x
/-- the source of a value -/
theorem src_of {w : Wd} {d : D} {ds : List D} {v : V} {u : Value} (h : Rep w d v) (e : itemsOf d = some ds) (rv : RelV v u) : ∃ r : Src, u = r.val ∧ Reps w ds r.its ∧ ∀ w', Step w w' → r.at_ w'.K w'.H := by
  cases d with
  | lst xs =>
    cases e
    rw [rep_lst_iff] at h
    obtain ⟨a, xs, rfl, t, r⟩ := h
    cases rv
    exact ⟨.l a xs, rfl, r, fun w' s => (t.step s).sq⟩
  | tup xs =>
    cases e
    rw [rep_tup_iff] at h
    obtain ⟨a, xs, rfl, t, r⟩ := h
    cases rv
    exact ⟨.t a xs, rfl, r, fun w' s => (t.step s).sq⟩
  | str z =>
    cases e
    rw [rep_str] at h
    obtain ⟨rfl, ok⟩ := h
    obtain ⟨tk, rfl⟩ := rv
    refine ⟨.s _ tk, rfl, ?_, fun _ _ => trivial⟩
    show Reps w (signs z) (z.map fun c => V.str ⟨#[c]⟩)
    have go : ∀ l : List Nat, (∀ c ∈ l, c ∈ z) → Reps w (signs l) (l.map fun c => V.str ⟨#[c]⟩) := by
      intro l
      induction l with
      | nil => intro _; exact .nil
      | cons c l ih => intro hm; exact .cons (by rw [rep_str]; exact ⟨rfl, ok.one (hm c List.mem_cons_self)⟩) (ih fun d hd => hm d (List.mem_cons_of_mem _ hd))
    exact go z fun _ h => h
  | _ => cases e
theorem walk_src {w : Wd} {ds : List D} {r : Src} (rs : Reps w ds r.its) (ha : ∀ w', Step w w' → r.at_ w'.K w'.H) : WalkD w ds (r.it w.K) := by
  have hl := rs.length
  have key : ∀ (i : Nat) (w1 : Wd) (h : List O) (x : V), Step w w1 → RelH w1 h → r.its[i]? = some x → ∃ w' d, XS w1 w' ∧ w'.H = w1.H ∧ RelH w' h ∧ ds[i]? = some d ∧ Rep w' d x := by
    intro i w1 h x s1 r1 e
    have hi : i < ds.length := by rw [← hl]; exact (List.getElem?_eq_some_iff.mp e).1
    obtain ⟨y, e1, e2⟩ := rs.get (List.getElem?_eq_getElem hi)
    rw [e] at e1; cases e1
    exact ⟨w1, ds[i], XS.refl w1, rfl, r1, List.getElem?_eq_getElem hi, Rep.step s1 _ _ e2⟩
  cases r with
  | l a xs =>
    have hl : xs.length = ds.length := hl
    have hq : ∀ w', Step w w' → SqL w.K w'.H a xs := fun w' s => by have q : SqL w'.K w'.H a xs := ha w' s; rw [s.k] at q; exact q
    exact ⟨fun i w' s hi => ⟨xs, _, hq w' s, List.getElem?_eq_getElem (by rw [hl]; exact hi)⟩, fun w' s => ⟨xs, hq w' s, by rw [hl]; exact Nat.le_refl _⟩, fun i w' h x H' s r1 hi0 y => by
      obtain ⟨rfl, y⟩ := y
      exact key i w' h x s r1 (y xs (hq w' s))⟩
  | t a xs =>
    have hl : xs.length = ds.length := hl
    have hq : ∀ w', Step w w' → SqT w.K w'.H a xs := fun w' s => by have q : SqT w'.K w'.H a xs := ha w' s; rw [s.k] at q; exact q
    exact ⟨fun i w' s hi => ⟨xs, _, hq w' s, List.getElem?_eq_getElem (by rw [hl]; exact hi)⟩, fun w' s => ⟨xs, hq w' s, by rw [hl]; exact Nat.le_refl _⟩, fun i w' h x H' s r1 hi0 y => by
      obtain ⟨rfl, y⟩ := y
      exact key i w' h x s r1 (y xs (hq w' s))⟩
  | s z tk =>
    have e : z.cps.size = ds.length := by rw [← hl]; simp [Src.its]
    exact ⟨fun i w' s hi => by show i < z.cps.size; rw [e]; exact hi, fun w' s => by show z.cps.size ≤ ds.length; rw [e]; exact Nat.le_refl _, fun i w' h x H' s r1 hi0 y => by
      obtain ⟨rfl, c, hc, rfl⟩ := y
      exact key i w' h _ s r1 (by
        have hc' : z.cps.toList[i]? = some c := by simpa using hc
        show (z.cps.toList.map _)[i]? = _
        rw [List.getElem?_map, hc']; rfl)⟩
theorem zipD_len : ∀ (a b : List D), (zipD a b).length = min a.length b.length
  | [], _ => by simp [zipD]
  | _ :: _, [] => by simp [zipD]
  | x :: xs, y :: ys => by rw [zipD, List.length_cons, zipD_len xs ys, List.length_cons, List.length_cons]; omega
theorem zipD_get : ∀ (a b : List D) (i : Nat) (x y : D), a[i]? = some x → b[i]? = some y → (zipD a b)[i]? = some (.tup [x, y])
  | [], _, _, _, _, h, _ => by simp at h
  | _ :: _, [], _, _, _, _, h => by simp at h
  | x :: xs, y :: ys, 0, _, _, h, k => by cases h; cases k; rfl
  | x :: xs, y :: ys, i + 1, u, v, h, k => by rw [zipD]; simpa using zipD_get xs ys i u v (by simpa using h) (by simpa using k)
theorem walk_zip2 {w : Wd} {ds es : List D} {r q : Src} (rs : Reps w ds r.its) (qs : Reps w es q.its) (ha : ∀ w', Step w w' → r.at_ w'.K w'.H) (hb : ∀ w', Step w w' → q.at_ w'.K w'.H) : WalkD w (zipD ds es) (ItZ w.K r q) := by
  have l1 := rs.length
  have l2 := qs.length
  have h1 : ∀ w', Step w w' → r.at_ w.K w'.H := fun w' s => by have z := ha w' s; rw [s.k] at z; exact z
  have h2 : ∀ w', Step w w' → q.at_ w.K w'.H := fun w' s => by have z := hb w' s; rw [s.k] at z; exact z
  refine ⟨fun i w' s hi => ?_, fun w' s => ?_, fun i w' h x H' s r1 hi0 y => ?_⟩
  · rw [zipD_len] at hi
    exact ⟨h1 w' s, h2 w' s, by omega, by omega⟩
  · rw [zipD_len]
    exact ⟨h1 w' s, h2 w' s, by omega, by omega, by omega⟩
  · obtain ⟨T, x, y, rfl, hT, rfl, e1, e2⟩ := y
    have i1 : i < ds.length := by rw [← l1]; exact (List.getElem?_eq_some_iff.mp e1).1
    have i2 : i < es.length := by rw [← l2]; exact (List.getElem?_eq_some_iff.mp e2).1
    obtain ⟨x', a1, a2⟩ := rs.get (List.getElem?_eq_getElem i1)
    obtain ⟨y', b1, b2⟩ := qs.get (List.getElem?_eq_getElem i2)
    rw [e1] at a1; cases a1
    rw [e2] at b1; cases b1
    exact ⟨w'.put T (.tup [x, y]), .tup [ds[i], es[i]], xs_put hT, rfl, r1.put hT, zipD_get _ _ i _ _ (List.getElem?_eq_getElem i1) (List.getElem?_eq_getElem i2), rep_tup r1 hT (.cons (Rep.step s _ _ a2) (.cons (Rep.step s _ _ b2) .nil))⟩
theorem walk_rng {w : Wd} (lo hi : Int) : WalkD w (rangeD lo hi) (Itr lo (hi - lo).toNat) := by
  have e : (rangeD lo hi).length = (hi - lo).toNat := by simp [rangeD]
  refine ⟨fun i w' s h => by rw [e] at h; exact h, fun w' s => by rw [e]; exact Nat.le_refl _, fun i w' h x H' s r1 hi0 y => ?_⟩
  obtain ⟨rfl, rfl⟩ := y
  rw [e] at hi0
  exact ⟨w', .int (lo + (i : Int)), XS.refl w', rfl, r1, by simp [rangeD, hi0], by rw [rep_int]⟩

/-! ### readings of what is walked -/
def tI (K : PySem.W.Frag) (gd : Gd) (Ex : XK) (m : I) : TI := fun σ H R => ∃ w h aσ, w.K = K ∧ w.gd = gd ∧ w.H = H ∧ RelH w h ∧ SlE w σ aσ ∧ Out w Ex (m aσ h) (fun ds _ w' => ∀ J, WalkD w' ds J → R J w'.H)
theorem PI.imp {X : Cx} {tg e : Expr} {t t' : TI} (h : PI X tg e t) (i : ∀ σ H Q, t' σ H Q → t σ H Q) : PI X tg e t' := ⟨fun pins s σ H Q I q => h.run pins s σ H Q I (i σ H Q q)⟩
theorem out_optL {w : Wd} {Ex : XK} {x : Option (List D)} {h : List O} {P : List D → List O → Wd → Prop} (o : Out w Ex ((ofOpt x : M (List D)) h) P) : ∃ d, x = some d ∧ Out w Ex (ret d h) P := by
  cases x with
  | none => exact o.elim
  | some d => exact ⟨d, rfl, o⟩
section
variable {X : Cx} {gd : Gd} {Ex : XK} {a b c tg : Expr} {ma mb : E} {pos : Pos}
theorem I_src (ha : PE X a (tE X.K gd Ex ma)) : PI X tg a (tI X.K gd Ex (iOf ma)) := by
  refine PI.imp (pi_src ha) fun σ H R h => ?_
  obtain ⟨w, h, aσ, wk, wg, rfl, r, s, o⟩ := h
  unfold iSrc
  refine tE_bind wk wg r s o fun d h1 w1 v s1 k1 g1 r1 sl1 rv o1 u ru => ?_
  obtain ⟨ds, e, o2⟩ := out_optL o1
  obtain ⟨rr, rfl, rs, ha⟩ := src_of rv e ru
  refine ⟨rr, rfl, by have z := ha w1 (Step.refl w1); rw [k1] at z; exact z, ?_⟩
  have q := out_ret o2 r1 (rr.it w1.K) (walk_src rs ha)
  rw [k1] at q
  exact q
theorem small_of {i : Int} (h : small i = true) : -(2 ^ 62) ≤ i ∧ i < 2 ^ 62 := by
  unfold small at h
  rw [Bool.and_eq_true, decide_eq_true_eq, decide_eq_true_eq] at h
  exact h
theorem out_guardL {c : Prop} [Decidable c] {w : Wd} {a : M (List D)} {h : List O} {P : List D → List O → Wd → Prop} (o : Out w Ex ((if c then a else no) h) P) : c ∧ Out w Ex (a h) P := out_guard o
theorem I_range1 {p : Pos} (hg : Gl X "range") (hm : X.mg "range" = none) (ha : PE X a (tE X.K gd Ex ma)) (hs : starEach [a] X.env = [(false, eval a X.env)] := by rfl) : PI X tg (.Call (.Name "range" p) [a] [] pos) (tI X.K gd Ex (iRange1 ma)) := by
  refine PI.imp (pi_range1 hg hm (pa_cons ha pa_nil (by exact hs)) hs) fun σ H R h => ?_
  obtain ⟨w, h, aσ, wk, wg, rfl, r, s, o⟩ := h
  show tE X.K gd Ex ma σ w.H _
  refine tE_bind wk wg r s o fun d h1 w1 v s1 k1 g1 r1 sl1 rv o1 => ?_
  cases d with
  | int i =>
    obtain ⟨hl, o2⟩ := out_guardL (a := ret (rangeD 0 i)) o1
    rw [rep_int] at rv
    subst rv
    obtain ⟨b1, b2⟩ := small_of hl
    refine ⟨i, rfl, b1, b2, ?_⟩
    have q := out_ret o2 r1 _ (walk_rng 0 i)
    rw [Int.sub_zero] at q
    exact q
  | _ => exact o1.elim
theorem I_range2 {p : Pos} (hg : Gl X "range") (hm : X.mg "range" = none) (ha : PE X a (tE X.K gd Ex ma)) (hb : PE X b (tE X.K gd Ex mb)) (hs : starEach [a, b] X.env = [(false, eval a X.env), (false, eval b X.env)] := by rfl) (hs2 : starEach [b] X.env = [(false, eval b X.env)] := by rfl) :
    PI X tg (.Call (.Name "range" p) [a, b] [] pos) (tI X.K gd Ex (iRange2 ma mb)) := by
  refine PI.imp (pi_range2 hg hm (pa_cons ha (pa_cons hb pa_nil (by exact hs2)) (by rw [hs, hs2])) hs hs2) fun σ H R h => ?_
  obtain ⟨w, h, aσ, wk, wg, rfl, r, s, o⟩ := h
  unfold L2.iRng2 L2.tCons
  refine tE_bind wk wg r s o fun d h1 w1 v s1 k1 g1 r1 sl1 rv o1 => ?_
  refine tE_bind k1 g1 r1 sl1 o1 fun d2 h2 w2 v2 s2 k2 g2 r2 sl2 rv2 o2 => ?_
  cases d with
  | int i =>
    cases d2 with
    | int j =>
      obtain ⟨hl, o3⟩ := out_guardL (a := ret (rangeD i j)) o2
      rw [rep_int] at rv rv2
      subst rv rv2
      obtain ⟨b1, b2⟩ := small_of hl.1
      obtain ⟨b3, b4⟩ := small_of hl.2
      exact ⟨i, j, rfl, ⟨b1, b2, b3, b4⟩, out_ret o3 r2 _ (walk_rng i j)⟩
    | _ => exact o2.elim
  | _ => exact o2.elim
theorem I_zip {p tpos : Pos} {elts : List Expr} {kk : Nat} (hg : Gl X "zip") (hm : X.mg "zip" = none) (ha : PE X a (tE X.K gd Ex ma)) (hb : PE X b (tE X.K gd Ex mb))
    (hs : starEach [a, b] X.env = (false, eval a X.env) :: starEach [b] X.env := by rfl) (hs2 : starEach [b] X.env = (false, eval b X.env) :: starEach [] X.env := by rfl) (hpl : (backTo pos (starEach [b] X.env)).any (·.1) = false := by rfl) :
    PI X (.Tuple elts kk tpos) (.Call (.Name "zip" p) [a, b] [] pos) (tI X.K gd Ex (iZip ma mb)) := by
  refine PI.imp (pi_zipG hg hm (pa_cons ha (pa_cons hb pa_nil hs2) hs) hs hpl) fun σ H R h => ?_
  obtain ⟨w, h, aσ, wk, wg, rfl, r, s, o⟩ := h
  unfold iZipG L2.tCons
  refine tE_bind wk wg r s o fun d h1 w1 v s1 k1 g1 r1 sl1 rv o1 => ?_
  refine tE_bind k1 g1 r1 sl1 o1 fun d2 h2 w2 v2 s2 k2 g2 r2 sl2 rv2 o2 us hus => ?_
  cases e1 : itemsOf d with
  | none => rw [e1] at o2; exact o2.elim
  | some xs =>
    cases e2 : itemsOf d2 with
    | none => rw [e1, e2] at o2; exact o2.elim
    | some ys =>
      rw [e1, e2] at o2
      have rv' := Rep.step s2.step _ _ rv
      obtain ⟨u1, u2, rfl, q1, q2⟩ : ∃ u1 u2, us = [u1, u2] ∧ RelV v u1 ∧ RelV v2 u2 := by
        cases hus with
        | cons p q => cases q with
          | cons p' q' => cases q'; exact ⟨_, _, rfl, p, p'⟩
      obtain ⟨ra, rfl, rs1, ha1⟩ := src_of rv' e1 q1
      obtain ⟨rb, rfl, rs2, ha2⟩ := src_of rv2 e2 q2
      refine ⟨ra, rb, rfl, by have z := ha1 w2 (Step.refl w2); rw [k2] at z; exact z, by have z := ha2 w2 (Step.refl w2); rw [k2] at z; exact z, ?_⟩
      have q := out_ret o2 r2 _ (walk_zip2 rs1 rs2 ha1 ha2)
      rw [k2] at q
      exact q

/-! ### targets -/
/-- the slots of a target -/
def tG (K : PySem.W.Frag) (gd : Gd) (g : G) (vs : List Nat) : TG := fun v σ H Q => ∃ w h aσ d aσ', w.K = K ∧ w.gd = gd ∧ w.H = H ∧ RelH w h ∧ SlE w σ aσ ∧ Rep w d v ∧ g d aσ = some aσ' ∧
  ∀ σ', SlE w σ' aσ' → σ'.length = σ.length → (∀ j, j ∉ vs → σ'[j]? = σ[j]?) → Q σ' H
def tGs (K : PySem.W.Frag) (gd : Gd) (gs : List G) (vs : List Nat) : TGs := fun xs σ H Q => ∃ w h aσ ds aσ', w.K = K ∧ w.gd = gd ∧ w.H = H ∧ RelH w h ∧ SlE w σ aσ ∧ Reps w ds xs ∧ gsGo gs ds aσ = some aσ' ∧
  ∀ σ', SlE w σ' aσ' → σ'.length = σ.length → (∀ j, j ∉ vs → σ'[j]? = σ[j]?) → Q σ' H
theorem PG.imp {t t' : TG} (h : PG X tg t) (i : ∀ v σ H Q, t' v σ H Q → t v σ H Q) : PG X tg t' := ⟨fun pins s σ H v u Q I r q => h.run pins s σ H v u Q I r (i v σ H Q q)⟩
theorem PGs.imp {es : List Expr} {t t' : TGs} (h : PGs X es t) (i : ∀ v σ H Q, t' v σ H Q → t v σ H Q) : PGs X es t' := ⟨fun pins s σ H v u Q I r q => h.run pins s σ H v u Q I r (i v σ H Q q)⟩
theorem SlE.set {w : Wd} {σ : L2.St} {aσ : S} {i : Nat} {d : D} {v : V} (s : SlE w σ aσ) (r : Rep w d v) : SlE w (σ.set i (some v)) (aσ.set i (.val d)) := by
  refine ⟨by rw [List.length_set, List.length_set]; exact s.len, fun j e h => ?_, fun j e h => ?_⟩
  · by_cases hj : i = j
    · subst hj
      have hlt : i < aσ.length := by
        have := (List.getElem?_eq_some_iff.mp h).1
        rw [List.length_set] at this; exact this
      rw [List.getElem?_set_self hlt] at h
      cases h
      exact ⟨v, List.getElem?_set_self (by rw [s.len]; exact hlt), r⟩
    · rw [List.getElem?_set_ne hj] at h ⊢
      exact s.val j e h
  · by_cases hj : i = j
    · subst hj
      have hlt : i < aσ.length := by
        have := (List.getElem?_eq_some_iff.mp h).1
        rw [List.length_set] at this; exact this
      rw [List.getElem?_set_self hlt] at h
      cases h
    · rw [List.getElem?_set_ne hj] at h ⊢
      exact s.own j e h
theorem G_var {i : Nat} {x : Str} (hN : X.N.Nodup) (hi : X.N[i]? = some x) (hx : Loc X.env.scope x) (hf : X.fn x = true ∨ X.env.scope.names.lookup x = some .local) : PG X (.Name x pos) (tG X.K gd (gVar i) [i]) := by
  refine PG.imp (pg_name hN hi hx hf) fun v σ H Q h => ?_
  obtain ⟨w, h, aσ, d, aσ', wk, wg, rfl, r, s, rv, e, q⟩ := h
  cases e
  exact q _ (s.set rv) (List.length_set ..) fun j hj => List.getElem?_set_ne (fun z => hj (by rw [z]; exact List.mem_singleton.mpr rfl))
theorem Gs_nil : PGs X [] (tGs X.K gd [] []) := by
  refine PGs.imp pgs_nil fun v σ H Q h => ?_
  obtain ⟨w, h, aσ, ds, aσ', wk, wg, rfl, r, s, rv, e, q⟩ := h
  cases ds with
  | nil => rw [Reps] at rv; cases e; exact ⟨rv, q σ s rfl fun _ _ => rfl⟩
  | cons d ds => cases e
theorem Gs_cons {e : Expr} {es : List Expr} {g : G} {gs : List G} {vs ws : List Nat} (h1 : PG X e (tG X.K gd g vs)) (h2 : PGs X es (tGs X.K gd gs ws)) (hs : (assignEach (e :: es) X.env).map (·.2) = assign e X.env :: (assignEach es X.env).map (·.2) := by rfl) :
    PGs X (e :: es) (tGs X.K gd (g :: gs) (vs ++ ws)) := by
  refine PGs.imp (pgs_cons h1 h2 hs) fun v σ H Q h => ?_
  obtain ⟨w, h, aσ, ds, aσ', wk, wg, rfl, r, s, rv, e, q⟩ := h
  cases ds with
  | nil => cases e
  | cons d ds =>
    rw [Reps] at rv
    obtain ⟨x, xr, rfl, rx, rr⟩ := rv
    have e : (g d aσ).bind (fun σ' => gsGo gs ds σ') = some aσ' := e
    cases e1 : g d aσ with
    | none => rw [e1] at e; cases e
    | some a1 =>
      rw [e1] at e
      refine ⟨x, xr, rfl, w, h, aσ, d, a1, wk, wg, rfl, r, s, rx, e1, fun σ1 s1 l1 o1 => ?_⟩
      refine ⟨w, h, a1, ds, aσ', wk, wg, rfl, r, s1, rr, e, fun σ2 s2 l2 o2 => q σ2 s2 (l2.trans l1) fun j hj => ?_⟩
      exact (o2 j fun z => hj (List.mem_append_right _ z)).trans (o1 j fun z => hj (List.mem_append_left _ z))
theorem gsGo_len : ∀ {gs : List G} {ds : List D} {a b : S}, gsGo gs ds a = some b → ds.length = gs.length
  | [], [], _, _, _ => rfl
  | [], _ :: _, _, _, e => by cases e
  | _ :: _, [], _, _, e => by cases e
  | g :: gs, d :: ds, a, b, e => by
    have e : (g d a).bind (fun σ' => gsGo gs ds σ') = some b := e
    obtain ⟨c, _, h⟩ := Option.bind_eq_some_iff.mp e
    rw [List.length_cons, List.length_cons, gsGo_len h]
theorem G_tup {es : List Expr} {k : Nat} {gs : List G} {vs : List Nat} (hc : X.calm = true) (h : PGs X es (tGs X.K gd gs vs)) (hl : gs.length = (assignEach es X.env).length) (hst : (assignEach es X.env).findIdx? (·.1) = none) :
    PG X (.Tuple es k pos) (tG X.K gd (gTup gs) vs) := by
  refine PG.imp (pg_tup hc h rfl hst) fun v σ H Q h => ?_
  obtain ⟨w, h, aσ, d, aσ', wk, wg, rfl, r, s, rv, e, q⟩ := h
  cases d with
  | tup ds =>
    have e : gsGo gs ds aσ = some aσ' := e
    obtain ⟨a, xs, rfl, t, rr⟩ := TupAt.ref rv
    exact ⟨a, xs, rfl, wk ▸ t, by rw [rr.length, gsGo_len e]; exact hl, w, h, aσ, ds, aσ', wk, wg, rfl, r, s, rr, e, q⟩
  | _ => cases e
end
end Cf
set_option Elab.async false
set_option linter.all false
set_option maxRecDepth 100000
set_option maxHeartbeats 2000000
/-! CfG: list comprehensions. -/
namespace Cf
open PySem PySem.Spec PyProof.Rows L2

def E0 : XK := fun _ _ _ => False
/-- what is tracked stays; the list under way is owned -/
structure XD (B : Addr) (w w' : Wd) : Prop where
  k : w'.K = w.K
  g : w'.gd = w.gd
  n : ∀ b, w'.N b ↔ (w.N b ∨ b = B)
  pre : w.ρ <+: w'.ρ
  keep : ∀ b o, w.H b = some o → b ∉ w.ρ → NoTbl o → w'.H b = some o ∧ b ∉ w'.ρ
  new : w.H B = none
theorem XD.step {B : Addr} {w w' : Wd} (a : XD B w w') : Step w w' :=
  ⟨a.k, a.g, a.pre, fun b o e n m t => let ⟨e1, n1⟩ := a.keep b o e n t; ⟨e1, n1, fun z => by
    rcases (a.n b).mp z with z | z
    · exact m z
    · rw [z, a.new] at e; cases e⟩⟩
theorem XD.trans {B : Addr} {w w1 w2 : Wd} (a : XD B w w1) (b : XS w1 w2) : XD B w w2 :=
  ⟨b.k.trans a.k, b.g.trans a.g, fun c => by rw [b.n]; exact a.n c, a.pre.trans b.pre, fun c o e n t => let ⟨e1, n1⟩ := a.keep c o e n t; b.keep c o e1 n1 t, a.new⟩
theorem Own.xd {B : Addr} {w w' : Wd} (a : XD B w w') (ow : ∀ b, w.N b → (∃ o, w.H b = some o ∧ NoTbl o) ∧ b ∉ w.ρ) {d : D} {v : V} {t : List Addr} (h : Own w d v t) : Own w' d v t := by
  cases h with
  | lst h n r => exact .lst (a.keep _ _ h (ow _ n).2 lst_notbl).1 ((a.n _).mpr (.inl n)) (Reps.step a.step _ _ r)
theorem SlE.xd {B : Addr} {w w' : Wd} {h : List O} {σ : L2.St} {aσ : S} (s : SlE w σ aσ) (a : XD B w w') (r : RelH w h) : SlE w' σ aσ :=
  ⟨s.len, fun i d e => let ⟨v, e1, e2⟩ := s.val i d e; ⟨v, e1, Rep.step a.step _ _ e2⟩, fun i d e => let ⟨v, t, e1, e2⟩ := s.own i d e; ⟨v, t, e1, e2.xd a r.own⟩⟩
theorem SlE.none {w : Wd} {σ : L2.St} {aσ : S} {i : Nat} (s : SlE w σ aσ) : SlE w (σ.set i none) (aσ.set i .no) := by
  refine ⟨by rw [List.length_set, List.length_set]; exact s.len, fun j e h => ?_, fun j e h => ?_⟩
  · by_cases hj : i = j
    · subst hj
      have hlt : i < aσ.length := by
        have := (List.getElem?_eq_some_iff.mp h).1
        rw [List.length_set] at this; exact this
      rw [List.getElem?_set_self hlt] at h
      cases h
    · rw [List.getElem?_set_ne hj] at h ⊢
      exact s.val j e h
  · by_cases hj : i = j
    · subst hj
      have hlt : i < aσ.length := by
        have := (List.getElem?_eq_some_iff.mp h).1
        rw [List.length_set] at this; exact this
      rw [List.getElem?_set_self hlt] at h
      cases h
    · rw [List.getElem?_set_ne hj] at h ⊢
      exact s.own j e h
theorem SlE.wipe {w : Wd} {σ : L2.St} {aσ : S} (s : SlE w σ aσ) : ∀ vs : List Nat, SlE w (L2.wipe σ vs) (Cf.wipe aσ vs)
  | [] => s
  | v :: vs => (s.wipe vs).none
/-- slots that agree outside -/
theorem wipe_eq {σ σ' : L2.St} (hl : σ'.length = σ.length) : ∀ {vs : List Nat}, (∀ j, j ∉ vs → σ'[j]? = σ[j]?) → L2.wipe σ' vs = L2.wipe σ vs := by
  intro vs ha
  apply List.ext_getElem?
  intro j
  by_cases hj : j ∈ vs
  · have key : ∀ (τ : L2.St) (us : List Nat), j ∈ us → j < τ.length → (L2.wipe τ us)[j]? = some none := by
      intro τ us
      induction us with
      | nil => intro h; cases h
      | cons u us ih =>
        intro h hl
        show ((L2.wipe τ us).set u none)[j]? = _
        by_cases e : u = j
        · subst e; rw [List.getElem?_set_self (by rw [L2.wipe_length]; exact hl)]
        · rw [List.getElem?_set_ne e]
          exact ih (by rcases List.mem_cons.mp h with z | z; exact absurd z.symm e; exact z) hl
    by_cases hlt : j < σ.length
    · rw [key σ' vs hj (by rw [hl]; exact hlt), key σ vs hj hlt]
    · rw [List.getElem?_eq_none (by rw [L2.wipe_length, hl]; exact Nat.le_of_not_lt hlt), List.getElem?_eq_none (by rw [L2.wipe_length]; exact Nat.le_of_not_lt hlt)]
  · rw [L2.wipe_out hj, L2.wipe_out hj]
    exact ha j hj
/-- the same heap, fewer owned -/
theorem RelH.drop {w : Wd} {h : List O} (r : RelH w h) {N : Addr → Prop} (hN : ∀ b, N b → w.N b) : Step w { w with N := N } ∧ RelH { w with N := N } h := by
  have st : Step w { w with N := N } := ⟨rfl, rfl, List.prefix_refl _, fun b o e n m _ => ⟨e, n, fun z => m (hN b z)⟩⟩
  refine ⟨st, r.len, r.nd, fun i o a e1 e2 => ?_, fun b hb => r.own b (hN b hb), r.tT⟩
  have q := r.obj i o a e1 e2
  cases o with
  | lst ds => obtain ⟨xs, e, q⟩ := q; exact ⟨xs, e, Reps.step st _ _ q⟩
  | ins c ns vs => obtain ⟨C, dx, fs, g, e, en, q⟩ := q; exact ⟨C, dx, fs, g, e, en, Reps.step st _ _ q⟩
/-- a step that writes at an owned place -/
theorem step_wr {w : Wd} {B : Addr} {o : HO} (n : w.N B) : Step w (w.put B o) :=
  ⟨rfl, rfl, List.prefix_refl _, fun b u e m k _ => ⟨by
    show upd w.H B o b = _
    rw [upd_ne (fun z => by rw [z] at k; exact k n)]; exact e, m, k⟩⟩
theorem tabs_wr {T : List (Addr × Str)} {H : Hp} {p : Addr} {xs : List V} {o : HO} (t : LamX.Tabs T H) (hp : H p = some (.lst xs)) : LamX.Tabs T (upd H p o) := by
  intro q hq
  obtain ⟨ps, h1, h2, h3⟩ := t q hq
  refine ⟨ps, by rw [upd_ne (ne_of h1 hp (fun z => by cases z))]; exact h1, h2, fun pos cv hc => ?_⟩
  obtain ⟨c, e1, e2⟩ := h3 pos cv hc
  exact ⟨c, e1, by rw [upd_ne (ne_of e2 hp (fun z => by cases z))]; exact e2⟩
theorem RelH.wr {w : Wd} {h : List O} (r : RelH w h) {B : Addr} {o : HO} {xs : List V} (n : w.N B) (e0 : w.H B = some (.lst xs)) (t : NoTbl o) : RelH (w.put B o) h := by
  have st := step_wr (o := o) n
  have hB : B ∉ w.ρ := (r.own B n).2
  refine ⟨r.len, r.nd, fun i u a e1 e2 => ?_, fun b hb => ?_, tabs_wr r.tT e0⟩
  · have hne : a ≠ B := fun z => hB (z ▸ List.mem_of_getElem? e2)
    have q := r.obj i u a e1 e2
    cases u with
    | lst ds => obtain ⟨xs, e, q⟩ := q; exact ⟨xs, by show upd w.H B o a = _; rw [upd_ne hne]; exact e, Reps.step st _ _ q⟩
    | ins c ns vs => obtain ⟨C, dx, fs, g, e, en, q⟩ := q; exact ⟨C, dx, fs, g, by show upd w.H B o a = _; rw [upd_ne hne]; exact e, en, Reps.step st _ _ q⟩
  · obtain ⟨⟨u, e, t1⟩, hb2⟩ := r.own b hb
    refine ⟨?_, hb2⟩
    by_cases z : b = B
    · subst z; exact ⟨o, upd_same, t⟩
    · exact ⟨u, by show upd w.H B o b = _; rw [upd_ne z]; exact e, t1⟩
/-- a new object, owned -/
def Wd.own (w : Wd) (p : Addr) (o : HO) : Wd := { w with H := upd w.H p o, N := fun b => w.N b ∨ b = p }
theorem xd_own {w : Wd} {h : List O} (r : RelH w h) {p : Addr} {o : HO} (hp : w.H p = none) : XD p w (w.own p o) :=
  ⟨rfl, rfl, fun _ => Iff.rfl, List.prefix_refl _, fun b u e n _ => ⟨by show upd w.H p o b = _; rw [upd_ne (ne_of_none e hp)]; exact e, n⟩, hp⟩
theorem RelH.ownNew {w : Wd} {h : List O} (r : RelH w h) {p : Addr} {o : HO} (hp : w.H p = none) (t : NoTbl o) : RelH (w.own p o) h := by
  have a := (xd_own (o := o) r hp).step
  have r1 := r.put (o := o) hp
  refine ⟨r.len, r.nd, fun i ob c e1 e2 => ?_, fun b hb => ?_, r1.tT⟩
  · have q := r.obj i ob c e1 e2
    cases ob with
    | lst ds =>
      obtain ⟨xs, e, q⟩ := q
      exact ⟨xs, by show upd w.H p o c = _; rw [upd_ne (ne_of_none e hp)]; exact e, Reps.step a _ _ q⟩
    | ins k ns vs =>
      obtain ⟨C, dx, fs, g, e, en, q⟩ := q
      exact ⟨C, dx, fs, g, by show upd w.H p o c = _; rw [upd_ne (ne_of_none e hp)]; exact e, en, Reps.step a _ _ q⟩
  · rcases hb with hb | hb
    · obtain ⟨⟨u, e, t1⟩, hb2⟩ := r.own b hb
      exact ⟨⟨u, by show upd w.H p o b = _; rw [upd_ne (ne_of_none e hp)]; exact e, t1⟩, hb2⟩
    · subst hb
      exact ⟨⟨o, upd_same, t⟩, (r.frz_new hp).2⟩
theorem Out.ok {α : Type} {w : Wd} {Ex : XK} {r : R α} {P : α → List O → Wd → Prop} {a : α} {h : List O} (e : r = .ok a h) (q : ∀ w', XS w w' → RelH w' h → P a h w') : Out w Ex r P := by rw [e]; exact q
theorem out_noer {α β : Type} {w : Wd} {Ex : XK} {m : M α} {k : α → M β} {h : List O} {P : β → List O → Wd → Prop} (o : Out w Ex ((noer m >>= k) h) P) : ∃ a h1, m h = .ok a h1 ∧ Out w Ex (k a h1) P := by
  have o : Out w Ex ((noer m h).next k) P := o
  unfold noer at o
  cases e : m h with
  | ok a h1 => rw [e] at o; exact ⟨a, h1, rfl, o⟩
  | er c vs h1 => rw [e] at o; exact o.elim
  | no => rw [e] at o; exact o.elim
theorem next_ok {α β : Type} {r : R α} {k : α → M β} {b : β} {h : List O} (e : r.next k = .ok b h) : ∃ a h1, r = .ok a h1 ∧ k a h1 = .ok b h := by
  cases r with
  | ok a h1 => exact ⟨a, h1, rfl, e⟩
  | er c vs h1 => cases e
  | no => cases e
theorem guard_ok {α : Type} {c : Prop} [Decidable c] {a : M α} {h h' : List O} {x : α} (e : (if c then a else no) h = .ok x h') : c ∧ a h = .ok x h' := by
  by_cases hc : c
  · rw [if_pos hc] at e; exact ⟨hc, e⟩
  · rw [if_neg hc] at e; cases e
theorem tI_bind {K : PySem.W.Frag} {gd : Gd} {Ex : XK} {m : I} {w : Wd} {h : List O} {σ : L2.St} {aσ : S} {β : Type} {k : List D → M β} {P : β → List O → Wd → Prop} {R : It → Hp → Prop}
    (wk : w.K = K) (wg : w.gd = gd) (r : RelH w h) (s : SlE w σ aσ) (o : Out w Ex ((m aσ >>= k) h) P)
    (hq : ∀ (ds : List D) (h1 : List O) (w1 : Wd), XS w w1 → w1.K = K → w1.gd = gd → RelH w1 h1 → SlE w1 σ aσ → Out w1 Ex (k ds h1) P → ∀ J, WalkD w1 ds J → R J w1.H) : tI K gd Ex m σ w.H R := by
  refine ⟨w, h, aσ, wk, wg, rfl, r, s, ?_⟩
  have o' : Out w Ex (m aσ h) (fun a h1 w1 => Out w1 Ex (k a h1) P) := Out.bind o
  cases e : m aσ h with
  | no => rw [e] at o'; exact o'
  | er c vs h1 => rw [e] at o'; exact o'
  | ok d h1 =>
    rw [e] at o'
    exact fun w1 s1 r1 J wd => hq d h1 w1 s1 (s1.k.trans wk) (s1.g.trans wg) r1 (s.xs s1 r) (o' w1 s1 r1) J wd
section
variable {X : Cx} {gd : Gd} {Ex : XK} {pos : Pos}
/-- the comprehension, by its mirror; the new list stands apart -/
theorem comp_core {K : PySem.W.Frag} {mi : I} {mg : G} {mt : T} {me : E} {vs vs' : List Nat} {σ : L2.St} {Q : VK} {w : Wd} {h : List O} {aσ : S} {Pf : List D → List O → Wd → Prop} (hv : ∀ i ∈ vs', i ∈ vs) (wk : w.K = K) (wg : w.gd = gd) (r : RelH w h) (sl : SlE w σ aσ)
    (o : Out w Ex (comp mi mg mt me vs aσ h) Pf)
    (hq : ∀ w1 h1, XS w w1 → w1.K = K → w1.gd = gd → RelH w1 h1 → SlE w1 σ aσ → ∀ ys h' w' B xs, XD B w1 w' → RelH w' h' → w'.H B = some (.lst xs) → Reps w' ys xs → ys.length ≤ LIM → (∀ w2, XS w1 w2 → RelH w2 h' → Pf ys h' w2) → Q (.ref B) w'.H) :
    L2.tLc (tI K gd Ex mi) (tG K gd mg vs') (tT K gd E0 mt) (tE K gd E0 me) vs σ w.H Q := by
  refine tI_bind wk wg r sl o fun ds h1 w1 s1 k1 g1 r1 sl1 o1 J wd B hB => ?_
  obtain ⟨yall, hf, ey, o2⟩ := out_noer o1
  obtain ⟨hl, o2⟩ := out_guardL (a := ret yall) o2
  have o2 : ∀ w2, XS w1 w2 → RelH w2 hf → Pf yall hf w2 := o2
  refine ⟨fun i m H => m = ds.length - i ∧ i ≤ ds.length ∧ ∃ w' h' ys rest xs, XD B w1 w' ∧ w'.H = H ∧ RelH w' h' ∧ w'.H B = some (.lst xs) ∧ Reps w' ys xs ∧ ys ++ rest = yall ∧ compGo mg mt me (Cf.wipe aσ vs) (ds.drop i) h' = .ok rest hf,
    ⟨_, rfl, Nat.zero_le _, w1.own B (.lst []), h1, [], yall, [], xd_own r1 hB, rfl, r1.ownNew hB lst_notbl, upd_same, .nil, rfl, ey⟩, fun i m H hW => ?_⟩
  obtain ⟨rfl, hi, w', h', ys, rest, xs, xd, rfl, r', eB, rs, ea, ec⟩ := hW
  by_cases hlt : i < ds.length
  · refine .inr ⟨wd.go i w' xd.step hlt, ?_⟩
    have ed : ds.drop i = ds[i] :: ds.drop (i + 1) := List.drop_eq_getElem_cons hlt
    rw [ed] at ec
    refine ⟨fun H' => ∃ w' h' ys rest xs, XD B w1 w' ∧ w'.H = H' ∧ RelH w' h' ∧ w'.H B = some (.lst xs) ∧ Reps w' ys xs ∧ ys ++ rest = yall ∧ compGo mg mt me (Cf.wipe aσ vs) (ds.drop (i + 1)) h' = .ok rest hf,
      fun H' z => ⟨_, by omega, rfl, hlt, z⟩, fun x H' hy => ?_⟩
    obtain ⟨w3, d, s3, rfl, r3, e3, rd⟩ := wd.yld i w' h' x H' xd.step r' hlt hy
    rw [List.getElem?_eq_getElem hlt] at e3
    cases e3
    have ec : (match mg ds[i] (Cf.wipe aσ vs) with
      | none => no
      | some σ1 => mt σ1 >>= fun b => if b = true then me σ1 >>= fun y => compGo mg mt me (Cf.wipe aσ vs) (ds.drop (i + 1)) >>= fun ys => ret (y :: ys) else compGo mg mt me (Cf.wipe aσ vs) (ds.drop (i + 1))) h' = .ok rest hf := ec
    cases eg : mg ds[i] (Cf.wipe aσ vs) with
    | none => rw [eg] at ec; cases ec
    | some a1 =>
      rw [eg] at ec
      have x3 := xd.trans s3
      refine ⟨w3, h', Cf.wipe aσ vs, ds[i], a1, x3.k.trans k1, x3.g.trans g1, rfl, r3, (sl1.xd x3 r1).wipe vs, rd, eg, fun σ2 s2 l2 ag => ⟨?_, ?_⟩⟩
      · have q := wipe_eq l2 (vs := vs) (fun j hj => ag j fun z => hj (hv j z))
        rw [q]
        have idem : ∀ (us : List Nat), L2.wipe (L2.wipe σ us) us = L2.wipe σ us := fun us => by
          refine wipe_eq (L2.wipe_length _ _) fun j hj => L2.wipe_out hj
        exact idem vs
      · obtain ⟨b, h4, et, ec⟩ := next_ok ec
        refine ⟨w3, h', a1, x3.k.trans k1, x3.g.trans g1, rfl, r3, s2, Out.ok et fun w4 s4 r4 => ?_⟩
        have x4 := x3.trans s4
        have eB4 : w4.H B = some (.lst xs) := (s4.keep B _ (s3.keep B _ eB (r'.own B ((xd.n B).mpr (.inr rfl))).2 lst_notbl).1 (r3.own B ((x3.n B).mpr (.inr rfl))).2 lst_notbl).1
        have rs4 : Reps w4 ys xs := Reps.step (s3.trans s4).step _ _ rs
        cases b with
        | false => exact ⟨w4, h4, ys, rest, xs, x4, rfl, r4, eB4, rs4, ea, ec⟩
        | true =>
          obtain ⟨y, h5, ee, ec⟩ := next_ok ec
          obtain ⟨zs, h6, ez, ec⟩ := next_ok ec
          have ec : R.ok (y :: zs) h6 = R.ok rest hf := ec
          cases ec
          refine ⟨w4, h4, a1, x4.k.trans k1, x4.g.trans g1, rfl, r4, s2.xs s4 r3, Out.ok ee fun w5 s5 r5 v rv => ?_⟩
          have x5 := x4.trans s5
          have n5 : w5.N B := (x5.n B).mpr (.inr rfl)
          have eB5 : w5.H B = some (.lst xs) := (s5.keep B _ eB4 (r4.own B ((x4.n B).mpr (.inr rfl))).2 lst_notbl).1
          have hlen : ys.length ≤ yall.length := by rw [← ea, List.length_append]; exact Nat.le_add_right _ _
          have hst := step_wr (o := .lst (xs ++ [v])) n5
          refine ⟨xs, eB5, ?_, w5.put B (.lst (xs ++ [v])), h5, ys ++ [y], zs, xs ++ [v], ⟨x5.k, x5.g, x5.n, x5.pre, fun b u e n t => ?_, x5.new⟩, rfl, r5.wr n5 eB5 lst_notbl, upd_same,
            (Reps.step (s5.step.trans hst) _ _ rs4).append (.cons (Rep.step hst _ _ rv) .nil), by rw [List.append_assoc]; exact ea, ez⟩
          · rw [rs4.length]; exact Nat.lt_of_le_of_lt (Nat.le_trans hlen hl) (by decide)
          · obtain ⟨e5, nn⟩ := x5.keep b u e n t
            exact ⟨by show upd w5.H B _ b = _; rw [upd_ne (ne_of_none e hB)]; exact e5, nn⟩
  · have e : i = ds.length := Nat.le_antisymm hi (Nat.le_of_not_lt hlt)
    subst e
    rw [List.drop_length] at ec
    have ec : R.ok [] h' = R.ok rest hf := ec
    cases ec
    rw [List.append_nil] at ea
    subst ea
    exact .inl ⟨wd.stop w' xd.step, hq w1 h1 s1 k1 g1 r1 sl1 _ _ w' B xs xd r' eB rs hl o2⟩
/-- the new list, for good -/
theorem xd_drop {w w' : Wd} {h : List O} {B : Addr} {xs : List V} {ys : List D} (xd : XD B w w') (r0 : RelH w h) {h' : List O} (r : RelH w' h') (e : w'.H B = some (.lst xs)) (rs : Reps w' ys xs) :
    XS w { w' with N := w.N } ∧ RelH { w' with N := w.N } h' ∧ Rep { w' with N := w.N } (.lst ys) (.ref B) := by
  obtain ⟨st, r2⟩ := r.drop (N := w.N) fun b z => (xd.n b).mpr (.inl z)
  refine ⟨⟨xd.k, xd.g, rfl, xd.pre, fun b o e n t => xd.keep b o e n t⟩, r2, ?_⟩
  rw [rep_lst_iff]
  refine ⟨B, xs, rfl, .inl ⟨.inl e, fun z => ?_, (r.own B ((xd.n B).mpr (.inr rfl))).2⟩, Reps.step st _ _ rs⟩
  obtain ⟨⟨u, eu, _⟩, _⟩ := r0.own B z
  rw [xd.new] at eu; cases eu
theorem comp_frz {K : PySem.W.Frag} {mi : I} {mg : G} {mt : T} {me : E} {vs vs' : List Nat} {σ : L2.St} {H : Hp} {Q : VK} (hv : ∀ i ∈ vs', i ∈ vs) (q : tE K gd Ex (eComp mi mg mt me vs) σ H Q) :
    L2.tLc (tI K gd Ex mi) (tG K gd mg vs') (tT K gd E0 mt) (tE K gd E0 me) vs σ H Q := by
  obtain ⟨w, h, aσ, wk, wg, rfl, r, sl, o⟩ := q
  have o' := Out.bind (r := comp mi mg mt me vs aσ h) o
  refine comp_core hv wk wg r sl o' fun w1 h1 s1 k1 g1 r1 sl1 ys h2 w2 B xs xd r2 e rs hl hp => ?_
  obtain ⟨x1, r3, rv⟩ := xd_drop xd r1 r2 e rs
  have q := hp _ x1 r3
  exact (show Out _ Ex (ret (D.lst ys) h2) _ from q) _ (XS.refl _) r3 _ rv
variable {elt tg iter : Expr} {ifs : List Expr} {scope : Scope} {own : List (Str × Nat)} {mi : I} {mg : G} {mt : T} {me : E} {vs' : List Nat}
theorem T_nil : PTs X [] (tT X.K gd Ex tYes) := ⟨fun pins s σ H Q I h => by
  obtain ⟨w, h, aσ, wk, wg, rfl, r, sl, o⟩ := h
  exact wpAny_tests_nil ⟨w.H, I, o w (XS.refl w) r⟩⟩
theorem R_comp (hc : X.calm = true) (hN : X.N.Nodup) (hi : PI X tg iter (tI X.K gd Ex mi)) (ok : BlkOk X.N X.env.scope scope own) (hv : ∀ i ∈ vs', i ∈ own.map (·.2))
    (hg : ∀ (s : Shared) (H : Hp) (C : Addr) (cl : List (Str × Addr)) (fp : List Addr), PG (X.blk s H scope (compEnvC scope cl C X.env) fp) tg (tG X.K gd mg vs'))
    (ht : ∀ (s : Shared) (H : Hp) (C : Addr) (cl : List (Str × Addr)) (fp : List Addr), PTs (X.blk s H scope (compEnvC scope cl C X.env) fp) ifs (tT X.K gd E0 mt))
    (he : ∀ (s : Shared) (H : Hp) (C : Addr) (cl : List (Str × Addr)) (fp : List Addr), PE (X.blk s H scope (compEnvC scope cl C X.env) fp) elt (tE X.K gd E0 me))
    (hs : ∀ x, foldedSetIterable iter X.env x = pure x := by intro _; rfl) :
    PE X (.ListComp elt [⟨tg, iter, ifs, 0⟩] scope pos) (tE X.K gd Ex (eComp mi mg mt me (own.map (·.2)))) :=
  PE.imp (pe_lc hc hN hi ok hg ht he hs) fun σ H Q h => comp_frz hv h
end
end Cf
set_option Elab.async false
set_option linter.all false
set_option maxRecDepth 100000
set_option maxHeartbeats 2000000
/-! CfH: all, any of a generator expression over anything that PI serves. -/
namespace Cf
open PySem PySem.Spec PyProof.Rows L2 GenW

theorem over_genLoop {A : Around} {elt : Expr} {gs : List Comprehension} {scope : Scope} {pos : Pos} {it acc : Value} {env : Env} : A.over (.compLoop (.GeneratorExp elt gs scope pos) 0 it acc env) [] = A.deeper env := by
  first
    | rfl
    | (obtain ⟨hd, d, fr, gs, u⟩ := A; simp [Around.over, Around.deeper, marksOver, frameCount, unitsOf, envsOf, guardsOf, pushEnvs, pushGuards, Code.envs, Code.env?, Code.isFrame, Code.guards, Code.isGuard, Code.weight, Code.frames, Code.isCreation, Code.isCaller, Code.cUnits])
theorem over_genStart {A : Around} {elt : Expr} {gs : List Comprehension} {scope : Scope} {pos : Pos} {it acc : Value} {env : Env} : A.over (.compStart (.GeneratorExp elt gs scope pos) 0 it acc env) [] = A.deeper env := by
  first
    | rfl
    | (obtain ⟨hd, d, fr, gs, u⟩ := A; simp [Around.over, Around.deeper, marksOver, frameCount, unitsOf, envsOf, guardsOf, pushEnvs, pushGuards, Code.envs, Code.env?, Code.isFrame, Code.guards, Code.isGuard, Code.weight, Code.frames, Code.isCreation, Code.isCaller, Code.cUnits])

/-- the context of a generator expression's body -/
abbrev gxCx (X : Cx) (A : Around) (s : Shared) (H : Hp) (env : Env) (fp : List Addr) : Cx :=
  { X with A := A.deeper env, s_0 := s, H_0 := H, env := env, outer := X.stack, stack := env :: X.stack, ex := fp, fn := fun _ => false, calm := true, pn := [], xe := fun _ _ => False }
/-- the scope of a generator expression -/
structure GxS (scope : Scope) : Prop where
  co : scope.isCoroutine = false
  cell : ∀ y ∈ scope.names, y.2 ≠ .cell
  dot : scope.names.lookup (".0" : Str) = some NameKind.local
def gxB (scope : Scope) : Bool := !scope.isCoroutine && (scope.names.all fun y => !decide (y.2 = .cell)) && decide (scope.names.lookup (".0" : Str) = some NameKind.local)
theorem gxS_by {scope : Scope} (h : gxB scope = true) : GxS scope := by
  unfold gxB at h
  simp only [Bool.and_eq_true, Bool.not_eq_true', decide_eq_true_eq, decide_eq_false_iff_not, List.all_eq_true] at h
  exact ⟨h.1.1, h.1.2, h.2⟩
section
variable {X : Cx} {pins : List (Addr × Obj)} {σ : L2.St} {H : Hp} {s : Shared} {scope : Scope} {own : List (Str × Nat)}
/-- each captured name has its cell -/
theorem gx_has (ok : BlkOk X.N X.env.scope scope own) (okX : X.Ok) : ∀ p ∈ scope.names, p.2 = .free → ∃ c, X.env.cells.lookup p.1 = some c :=
  fun p hp e => (ok.free p hp e).elim (fun z => okX.has _ (.inl z)) fun z => okX.has _ (.inr z)
/-- the closure holds what is captured, and nothing else -/
theorem gx_clo (has : ∀ p ∈ scope.names, p.2 = .free → ∃ c, X.env.cells.lookup p.1 = some c) {n : Str} : (∀ c, (cloFrom X.env.cells scope.names []).lookup n = some c → X.env.cells.lookup n = some c) ∧ (scope.names.lookup n = some .free → ∃ c, (cloFrom X.env.cells scope.names []).lookup n = some c) := by
  constructor
  · intro c e
    cases cloFrom_mem (PySem.mem_of_lookup e) with
    | inl z => cases z
    | inr z =>
      obtain ⟨c1, e1⟩ := has _ z.1 rfl
      have e1 : X.env.cells.lookup n = some c1 := e1
      have e2 : c = (X.env.cells.lookup n).getD 0 := z.2
      rw [e2, e1]; rfl
  · exact fun e => mem_lookup (cloFrom_has (cells := X.env.cells) (acc := []) (PySem.mem_of_lookup e))
/-- the body's context stands -/
theorem gx_start {A : Around} {fp : List Addr} {code : Value} {it : Value} {h1 : Heap} {a : Addr} {o : Obj} {gs1 : Array GenState} {tk : Nat} (I : Inv X pins σ H s) (ok : BlkOk X.N X.env.scope scope own) (gx : GxS scope) (hd : A.handled = none) (hfr : A.frames = some X.stack)
    (hN : X.N.Nodup) (hfp : ∀ b ∈ fp, FpOk X pins H b ∧ b < s.heap.objs.size)
    (hns : h1.Ns s.heap.objs.size fun y => if y = ".0" then some it else none) (kp : ∀ b o, s.heap.get? b = some o → h1.get? b = some o) (ha : h1.get? a = some o) (hal : s.heap.objs.size < a) (ho : ∀ v, o.data ≠ .cell v) (hg : AllBare gs1) :
    Inv (gxCx X A s H (genEnv scope (cloFrom X.env.cells scope.names []) s.heap.objs.size code builtinsNs X.env) fp) [(a, o)] (L2.wipe σ (own.map (·.2))) H { s with heap := h1, gens := gs1, toks := tk } := by
  have clo := fun n => gx_clo (n := n) (gx_has ok I.ok)
  have nocell : ∀ {n}, scope.names.lookup n ≠ some .cell := fun {n} e => gx.cell _ (PySem.mem_of_lookup e) rfl
  have old : ∀ b ∈ frs X.stack, b ≠ a ∧ b ∉ fp := fun b hb => by
    have := I.stkSub b hb
    constructor
    · intro e
      subst e
      cases List.mem_cons.mp this with
      | inl z => exact Nat.lt_asymm (show b < _ by rw [z]; exact I.lt) hal
      | inr z => exact I.nofs (Nat.le_of_lt hal) z
    · intro hf
      obtain ⟨⟨_, nL, nF, _⟩, _⟩ := hfp b hf
      cases List.mem_cons.mp this with
      | inl z => exact nL z
      | inr z => exact nF z
  have okG : (gxCx X A s H (genEnv scope (cloFrom X.env.cells scope.names []) s.heap.objs.size code builtinsNs X.env) fp).Ok := {
    mod := I.ok.mod, kind := ok.kind, glob := I.ok.glob, blt := rfl, above := Nat.le_refl _
    inj := fun x y c e1 e2 => I.ok.inj x y c ((clo x).1 c e1) ((clo y).1 c e2)
    has := fun x hx => hx.elim (fun z => absurd z nocell) fun z => (clo x).2 z
    cab := fun _ _ z _ => Bool.noConfusion z
    hd := fun _ => hd, frames := Around.frames_deeper hfr, stk := .inr ⟨rfl, rfl⟩
    exf := fun b hb => ⟨Nat.ne_of_lt (hfp b hb).2, fun x c e => (hfp b hb).1.2.2.2.2.1 x c ((clo x).1 c e)⟩
    bs := I.bs, bsz := Nat.le_trans I.ok.bsz I.sz
    noex := fun b ob e hb => (hfp b hb).1.2.2.2.1.elim (I.ok.noex b ob e) fun z => Nat.lt_irrefl b (Nat.lt_of_lt_of_le (Heap.lt_size e) (Nat.le_trans I.ok.bsz z))
    exfs := fun b hb z => (old b z).2 hb
    funs := I.stack, frf := I.stkFree }
  have cells : ∀ x c, (cloFrom X.env.cells scope.names []).lookup x = some c → (∃ v, h1.IsCell c v) ∧ H c = none := fun x c e => by
    obtain ⟨v, ob, eo, ed⟩ := I.cell x c ((clo x).1 c e)
    exact ⟨⟨v, ob, kp _ _ eo, ed⟩, I.freeC x c ((clo x).1 c e)⟩
  have seen : ∀ (i : Nat) (n : Str) (v : V), X.N[i]? = some n → (L2.wipe σ (own.map (·.2)))[i]? = some (some v) → Vis scope n → ∃ u, RelV v u ∧ scope.names.lookup n = some .free ∧ ∃ c, (cloFrom X.env.cells scope.names []).lookup n = some c ∧ h1.IsCell c (some u) := by
    intro i n v en ev hv
    obtain ⟨ev, out⟩ := L2.wipe_some ev
    have fr : scope.names.lookup n = some .free := by
      rcases hv with z | z | z
      · exfalso
        rcases ok.own _ (PySem.mem_of_lookup z) (.inl rfl) with m | m
        · obtain ⟨pr, hpr, epr⟩ := List.mem_map.mp m
          have at_ := ok.ix pr hpr
          rw [show pr.1 = n from epr] at at_
          exact out (List.mem_map.mpr ⟨pr, hpr, nodup_ix hN at_ en⟩)
        · exact m (List.mem_of_getElem? en)
      · exact absurd z nocell
      · exact z
    obtain ⟨m, _, tell⟩ := I.loc
    have outer := ok.free _ (PySem.mem_of_lookup fr) rfl
    obtain ⟨u, ru, lk⟩ := tell i n v en ev (outer.elim (fun z => .inr (.inl z)) fun z => .inr (.inr z))
    obtain ⟨c, ec⟩ := (clo n).2 fr
    have ec' := (clo n).1 c ec
    refine ⟨u, ru, fr, c, ec, ?_⟩
    rcases lk with ⟨z, _⟩ | ⟨_, c2, e2, ob, eo, ed⟩
    · have z : X.env.scope.names.lookup n = some .local := z
      rcases outer with o1 | o1
      · exact absurd (z.symm.trans o1) (by decide)
      · exact absurd (z.symm.trans o1) (by decide)
    · obtain rfl : c = c2 := Option.some.inj (ec'.symm.trans e2)
      exact ⟨ob, kp _ _ eo, ed⟩
  refine ⟨okG, rfl, hg, Un.kept kp, ⟨_, hns, fun i n v en ev hv => ?_⟩, fun x c e => (cells x c e).1, I.hok.fresh (Nat.le_refl _), fun x c e => (cells x c e).2, fun pr hpr => ?_, I.hok.kept kp, (L2.wipe_length _ _).trans I.len⟩
  · obtain ⟨u, ru, fr, c, ec, cell⟩ := seen i n v en ev hv
    exact ⟨u, ru, .inr ⟨.inr fr, c, ec, cell⟩⟩
  · have hpr : pr ∈ ([] : List (Addr × Obj)) ++ [(a, o)] := hpr
    rw [List.nil_append, List.mem_singleton] at hpr
    subst hpr
    exact ⟨ha, I.hok.fresh (Nat.le_of_lt hal), Nat.ne_of_gt hal, fun z => (old a z).1 rfl, ho⟩
end

/-- the same heap: woken -/
structure Woke (s s' : Shared) : Prop where
  heap : s'.heap = s.heap
  os : s'.os = s.os
  bare : AllBare s'.gens
theorem inv_woke {X : Cx} {pins : List (Addr × Obj)} {σ : L2.St} {H : Hp} {s s' : Shared} (I : Inv X pins σ H s) (w : Woke s s') : Inv X pins σ H s' := by
  obtain ⟨h', g', d', t', o'⟩ := s'
  obtain ⟨e1, e2, e3⟩ := w
  have e1 : h' = s.heap := e1
  have e2 : o' = s.os := e2
  subst e1 e2
  exact ⟨I.ok, I.os, e3, I.base, I.loc, I.cell, I.free, I.freeC, I.pin, I.hok, I.len⟩
def GxEnd (Y : Cx) (pins : List (Addr × Obj)) (Fin : Hp → Prop) : Nat → Shared → Shared → Prop := fun n s₀ s₁ => ∃ σ' H, Inv Y pins σ' H s₁ ∧ Fin H
def GxY (Y : Cx) (pins : List (Addr × Obj)) (st : Bool) (Stp : Hp → Prop) : Protocol := fun m s₀ v s kap => ∃ b H σ', v = .bool b ∧ Inv Y pins σ' H s ∧ (b = st → Stp H) ∧ (b ≠ st → ∀ s'', Woke s s'' → kap (.send .none) s'')
theorem wq_mono {α : Type} {t : Sem α} {Q Q' : α → Shared → Prop} {M : Model} {A : Around} {E : Value → Shared → Prop} {s : Shared} (h : wpAny M A t Q (fun _ _ => False) s) (hQ : ∀ a s, Q a s → Q' a s) : wpAny M A t Q' E s := wpAny_mono h hQ fun _ _ z => False.elim z
section
variable {Y : Cx} {A' : Around} {tg elt iter : Expr} {scope : Scope} {pos : Pos} {J : It} {fp : List Addr} {it a : Addr} {o : Obj} {tn : Nat → Heap → Prop} {g : TG} {te : TE} {σ : L2.St} {vs : List Nat} {W : Nat → Nat → Hp → Prop} {Q : VK} {st : Bool}
theorem seg_gx (hA : Y.A = A'.deeper Y.env) (hxe : Y.xe = fun _ _ => False) (hc : Y.calm = true) (T : Turn Y.prog Y.w Y.K tg J fp it tn) (pg : PG Y tg g) (pe : PE Y elt te) (hco : Y.env.scope.isCoroutine = false)
    (stat : ∀ {σ' : L2.St} {H' : Hp} {s' : Shared}, Inv Y [(a, o)] σ' H' s' → (∀ b ∈ fp, H' b = none) → ∀ b ∈ fp, FpOk Y [(a, o)] H' b)
    (turn : ∀ i m H, W i m H → (J.stop i H ∧ Q (.bl (!st)) H) ∨ (J.go i H ∧ 0 < m ∧ ∃ Nx : Hp → Prop, (∀ H', Nx H' → ∃ m', m' < m ∧ W (i + 1) m' H') ∧ ∀ x H', J.yld i H x H' → g x (L2.wipe σ vs) H' fun σ2 H2 => L2.wipe σ2 vs = L2.wipe σ vs ∧
      te σ2 H2 fun y H3 => ∃ b, y = .bl b ∧ (b = st → Q (.bl st) H3) ∧ (b ≠ st → Nx H3))) :
    ∀ (n m i : Nat) (s₀ s : Shared) (H : Hp), m ≤ n → W i m H → Inv Y [(a, o)] (L2.wipe σ vs) H s → tn i s.heap → (∀ b ∈ fp, H b = none) →
      Seg (model Y.prog Y.w) A' (fun n s₀ r s₁ => r = .ok .next ∧ GxEnd Y [(a, o)] (Q (.bl (!st))) n s₀ s₁) (GxY Y [(a, o)] st (Q (.bl st))) n s₀ (.compLoop (.GeneratorExp elt [⟨tg, iter, [], 0⟩] scope pos) 0 (.ref it) .none Y.env)
        ((model Y.prog Y.w).den (.compLoop (.GeneratorExp elt [⟨tg, iter, [], 0⟩] scope pos) 0 (.ref it) .none Y.env)) [] s := by
  intro n
  induction n with
  | zero =>
    intro m i s₀ s H hm hW I t0 hf
    rcases turn i m H hW with ⟨stop, q⟩ | ⟨go, hpos, _⟩
    · show Seg _ A' _ _ _ s₀ _ ((compTurn (.GeneratorExp elt [⟨tg, iter, [], 0⟩] scope pos) 0 (.ref it) .none Y.env).onRaise (leaving Y.env)) [] s
      rw [compTurn_gen, Sem.onRaise_eq_wrap]
      refine seg_bind_wrap (wpAny_standAt ?_)
      refine seg_bind_wrap ?_
      rw [over_genLoop, ← hA]
      refine wq_mono (T.done Y rfl rfl rfl hc i [(a, o)] s _ H (fun _ _ => False) I (stat I hf) t0 stop) fun r s1 ⟨hr, I1⟩ => ?_
      subst hr
      exact seg_end (.ok .next) ⟨rfl, _, _, I1, q⟩
    · exact absurd hpos (by omega)
  | succ n ih =>
    intro m i s₀ s H hm hW I t0 hf
    show Seg _ A' _ _ _ s₀ _ ((compTurn (.GeneratorExp elt [⟨tg, iter, [], 0⟩] scope pos) 0 (.ref it) .none Y.env).onRaise (leaving Y.env)) [] s
    rw [compTurn_gen, Sem.onRaise_eq_wrap]
    refine seg_bind_wrap (wpAny_standAt ?_)
    refine seg_bind_wrap ?_
    rw [over_genLoop, ← hA]
    rcases turn i m H hW with ⟨stop, q⟩ | ⟨go, hpos, Nx, hNx, step⟩
    · refine wq_mono (T.done Y rfl rfl rfl hc i [(a, o)] s _ H (fun _ _ => False) I (stat I hf) t0 stop) fun r s1 ⟨hr, I1⟩ => ?_
      subst hr
      exact seg_end (.ok .next) ⟨rfl, _, _, I1, q⟩
    · refine wq_mono (T.item Y rfl rfl rfl hc i [(a, o)] s _ H (fun _ _ => False) I (stat I hf) t0 go) fun r s1 ⟨u, hr, h1⟩ => ?_
      subst hr
      refine seg_bind_wrap ?_
      rw [over_genLoop, ← hA]
      refine wq_mono h1 fun _ s2 ⟨x, H2, I2, rx, yl, t2, f2⟩ => ?_
      have I2' := I2.pinned (stat I2 f2) (T.obj _ _ t2)
      refine seg_bind_wrap ?_
      rw [over_genLoop, ← hA]
      have hpg := pg.run _ s2 _ H2 x u _ I2' rx (step x H2 yl)
      rw [hxe] at hpg
      refine wq_mono hpg fun _ s3 ⟨σ3, H3, I3, hw3, q3⟩ => ?_
      refine seg_bind_wrap ?_
      simp only [List.forIn_nil]
      refine wpAny_pure ?_
      simp only [if_true]
      have hy : ∀ v, yieldOut Y.env v = yieldValue v := fun v => by simp only [yieldOut, hco, Bool.false_eq_true, if_false]
      simp only [hy]
      rw [Sem.bind_eq_wrap', Sem.bind_eq_wrap', Sem.wrap_wrap, Sem.wrap_wrap]
      refine seg_wrap ?_
      rw [over_genLoop, ← hA]
      have hpe := pe.run _ s3 σ3 H3 _ I3 q3
      rw [hxe] at hpe
      refine wq_mono hpe fun y s4 ⟨v, H4, I4, rv, b, eb, hst, hgo⟩ => ?_
      subst eb
      have rv : y = Value.bool b := rv
      subst rv
      refine seg_at (seg_yield rfl rfl rfl ⟨b, H4, σ3, rfl, I4.unpinned, hst, fun hb s5 wk => ?_⟩)
      obtain ⟨m', hm', w'⟩ := hNx H4 (hgo hb)
      have pin' : ∀ c ∈ fp, ∀ o', s2.heap.get? c = some o' → s4.heap.get? c = some o' ∧ H4 c = none := fun c hc' o' e =>
        let z := I4.pin (c, o') (List.mem_append_right _ (List.mem_append_right _ (mem_pinsAt hc' e)))
        ⟨z.1, z.2.1⟩
      refine seg_again rfl (ih m' (i + 1) s5 s5 H4 (by omega) w' ?_ ?_ fun c hc' => ?_)
      · have I5 : Inv Y [(a, o)] σ3 H4 s5 := inv_woke I4.unpinned wk
        refine I5.weak (by rw [← hw3, L2.wipe_length]) fun j v e => ?_
        rw [← hw3] at e
        exact (L2.wipe_some e).1
      · rw [wk.heap]
        exact T.keep _ _ _ t2 fun c hc' o' e => (pin' c hc' o' e).1
      · obtain ⟨o', e, _⟩ := T.obj _ _ t2 c hc'
        exact (pin' c hc' o' e).2
theorem seg_gxStart (hA : Y.A = A'.deeper Y.env) (hxe : Y.xe = fun _ _ => False) (hc : Y.calm = true) (T : Turn Y.prog Y.w Y.K tg J fp it tn) (pg : PG Y tg g) (pe : PE Y elt te) (hco : Y.env.scope.isCoroutine = false)
    (stat : ∀ {σ' : L2.St} {H' : Hp} {s' : Shared}, Inv Y [(a, o)] σ' H' s' → (∀ b ∈ fp, H' b = none) → ∀ b ∈ fp, FpOk Y [(a, o)] H' b)
    (turn : ∀ i m H, W i m H → (J.stop i H ∧ Q (.bl (!st)) H) ∨ (J.go i H ∧ 0 < m ∧ ∃ Nx : Hp → Prop, (∀ H', Nx H' → ∃ m', m' < m ∧ W (i + 1) m' H') ∧ ∀ x H', J.yld i H x H' → g x (L2.wipe σ vs) H' fun σ2 H2 => L2.wipe σ2 vs = L2.wipe σ vs ∧
      te σ2 H2 fun y H3 => ∃ b, y = .bl b ∧ (b = st → Q (.bl st) H3) ∧ (b ≠ st → Nx H3)))
    {n m : Nat} {s₀ s : Shared} {H : Hp} (hm : m ≤ n) (hW : W 0 m H) (I : Inv Y [(a, o)] (L2.wipe σ vs) H s) (t0 : tn 0 s.heap) (hf : ∀ b ∈ fp, H b = none) :
      Seg (model Y.prog Y.w) A' (fun n s₀ r s₁ => r = .ok .next ∧ GxEnd Y [(a, o)] (Q (.bl (!st))) n s₀ s₁) (GxY Y [(a, o)] st (Q (.bl st))) n s₀ (.compStart (.GeneratorExp elt [⟨tg, iter, [], 0⟩] scope pos) 0 (.ref it) .none Y.env)
        ((model Y.prog Y.w).den (.compStart (.GeneratorExp elt [⟨tg, iter, [], 0⟩] scope pos) 0 (.ref it) .none Y.env)) [] s := by
  have loop := seg_gx (iter := iter) (scope := scope) (pos := pos) hA hxe hc T pg pe hco stat turn n m 0 s₀ s H hm hW I t0 hf
  show Seg _ A' _ _ _ s₀ _ ((compStart (.GeneratorExp elt [⟨tg, iter, [], 0⟩] scope pos) 0 (.ref it) .none Y.env).onRaise (leaving Y.env)) [] s
  unfold compStart
  rw [Sem.onRaise_eq_wrap]
  show Seg _ A' _ _ _ s₀ _ ((ask >>= _).wrap _ _ _ _) [] s
  refine seg_bind_wrap (wpAny_askSetting ?_)
  split
  · exact seg_again rfl loop
  · first
      | exact seg_bind_wrap (wpAny_rule (seg_bind_wrap (wpAny_standAt (seg_bind_wrap (T.self _ 0 s _ _ t0 (seg_again rfl loop))))))
      | (refine seg_bind_wrap (wpAny_rule ?_); show Seg _ A' _ _ _ s₀ _ ((standAt iter.pos >>= _).wrap _ _ _ _) [] s; exact seg_bind_wrap (wpAny_standAt (seg_bind_wrap (T.self _ 0 s _ _ t0 (seg_again rfl loop)))))
end

/-- what stands behind the loop -/
def GxFin (Y : Cx) (pins : List (Addr × Obj)) (Q : VK) (b : Bool) (s' : Shared) : Prop := ∃ σ' H, Inv Y pins σ' H s' ∧ Q (.bl b) H
/-- a turn of all's loop (st := False), of any's (st := True): it stops at st -/
def LoopB (prog : Program) (w : World) (id : String) (st : Bool) : Prop := ∀ (A : Around) (a : Addr) (R : Result → Shared → Prop) (s : Shared),
  wpAny (model prog w) A.in1 (pyNext (.ref a)) (fun r s' => match r with
    | none => R (.ok (.ret (.bool (!st)))) s'
    | some v => ∃ b, v = .bool b ∧ (b = st → R (.ok (.ret (.bool st))) s') ∧ (b ≠ st → codeAny (model prog w) A (.builtin id ⟨[.ref a], []⟩) R s')) (fun e s' => R (.error e) s') s → codeAny (model prog w) A (.builtin id ⟨[.ref a], []⟩) R s
theorem loop_all {prog : Program} {w : World} : LoopB prog w "all.loop" false := by
  intro A a R s h
  apply codeAny_builtin F.entry_all_loop
  simp only [Around.under_plainId F.plain_all_loop]
  refine wpAny_bind (wpAny_mono h (fun r s1 q => ?_) fun _ _ e => e)
  cases r with
  | none => exact wpAny_bind (wpAny_rule (wpAny_pure q))
  | some v =>
    obtain ⟨b, rfl, stop, go⟩ := q
    cases b
    · exact wpAny_bind (wpAny_holding (wpAny_truthy_bool (wpAny_bind (wpAny_letGo (wpAny_bind (wpAny_rule (wpAny_pure (stop rfl))))))))
    · exact wpAny_bind (wpAny_holding (wpAny_truthy_bool (wpAny_bind (wpAny_letGo (wpAny_pure ⟨plainId_quiet F.plain_all_loop _, go (by decide)⟩)))))
theorem loop_any {prog : Program} {w : World} : LoopB prog w "any.loop" true := by
  intro A a R s h
  apply codeAny_builtin F.entry_any_loop
  simp only [Around.under_plainId F.plain_any_loop]
  refine wpAny_bind (wpAny_mono h (fun r s1 q => ?_) fun _ _ e => e)
  cases r with
  | none => exact wpAny_bind (wpAny_rule (wpAny_pure q))
  | some v =>
    obtain ⟨b, rfl, stop, go⟩ := q
    cases b
    · exact wpAny_bind (wpAny_holding (wpAny_truthy_bool (wpAny_bind (wpAny_letGo (wpAny_pure ⟨plainId_quiet F.plain_any_loop _, go (by decide)⟩)))))
    · exact wpAny_bind (wpAny_holding (wpAny_truthy_bool (wpAny_bind (wpAny_letGo (wpAny_bind (wpAny_rule (wpAny_pure (stop rfl))))))))
theorem gx_loop {Y : Cx} {A : Around} {a : Addr} {o : Obj} {g : Nat} {Q : VK} {R : Result → Shared → Prop} {id : String} {st : Bool} (L : LoopB Y.prog Y.w id st) (hh : A.handled = none) (hd : A.depth < recursionLimit) (hg : ∀ h : Heap, h.get? a = some o → h.IsGen a g)
    (hR : ∀ b s', GxFin Y [(a, o)] Q b s' → R (.ok (.ret (.bool b))) s') : ∀ (n : Nat) (s : Shared) (τ : L2.St) (G : Hp), Inv Y [(a, o)] τ G s →
      (∃ gs, s.gens[g]? = some gs ∧ gs.Goes (model Y.prog Y.w) A.in1.in1 (fun n s₀ r s₁ => r = .ok .next ∧ GxEnd Y [(a, o)] (Q (.bl (!st))) n s₀ s₁) (GxY Y [(a, o)] st (Q (.bl st))) n (.send .none) (s.setGen g .running)) →
      codeAny (model Y.prog Y.w) A (.builtin id ⟨[.ref a], []⟩) R s := by
  intro n
  induction n with
  | zero =>
    rintro s τ G I ⟨gs, at_, goes⟩
    refine L A a R s (wpAny_pyNext_genexpQ hh I.nolimit hd (hg _ (I.pin (a, o) (by simp)).1) at_ goes (fun v s₁ gs' bare y => ?_) fun s₁ ended h' kept => ?_)
    · obtain ⟨b, G1, τ1, rfl, I1, stop, go⟩ := y
      exact ⟨b, rfl, fun e => hR st _ ⟨τ1, G1, inv_woke I1 ⟨rfl, rfl, allBare_setGen I1.bare bare⟩, stop e⟩, fun e => (go e s₁ ⟨rfl, rfl, I1.bare⟩).elim⟩
    · obtain ⟨τ1, G1, I1, q⟩ := ended
      exact hR (!st) _ ⟨τ1, G1, (inv_woke I1 (s' := s₁.setGen g .finished) ⟨rfl, rfl, allBare_setGen I1.bare rfl⟩).kept (t' := (s₁.setGen g .finished).toks) kept, q⟩
  | succ n ih =>
    rintro s τ G I ⟨gs, at_, goes⟩
    have many : g + 1 ≤ s.gens.size := (Array.getElem?_eq_some_iff.mp at_).1
    refine L A a R s (wpAny_gsz many (wpAny_pyNext_genexpQ hh I.nolimit hd (hg _ (I.pin (a, o) (by simp)).1) at_ goes (fun v s₁ gs' bare y size => ?_) fun s₁ ended h' kept _ => ?_))
    · obtain ⟨b, G1, τ1, rfl, I1, stop, go⟩ := y
      have I2 := inv_woke I1 (s' := s₁.setGen g gs') ⟨rfl, rfl, allBare_setGen I1.bare bare⟩
      have there : g < s₁.gens.size := by rw [← setGen_size s₁ g gs']; exact size
      exact ⟨b, rfl, fun e => hR st _ ⟨τ1, G1, I2, stop e⟩, fun e => ih _ τ1 G1 I2 ⟨gs', setGen_at there, go e _ ⟨rfl, rfl, allBare_setGen (s := s₁.setGen g gs') I2.bare rfl⟩⟩⟩
    · obtain ⟨τ1, G1, I1, q⟩ := ended
      exact hR (!st) _ ⟨τ1, G1, (inv_woke I1 (s' := s₁.setGen g .finished) ⟨rfl, rfl, allBare_setGen I1.bare rfl⟩).kept (t' := (s₁.setGen g .finished).toks) kept, q⟩
/-- the tables behind a new code object: all else is as it was -/
def Grown (T : List (Addr × Str)) (H H' : Hp) : Prop := LamX.ExtN H H' ∧ LamX.Tabs T H'
theorem tabs_grow {T : List (Addr × Str)} {H : Hp} {P c : Addr} {q : Str} {ps : Array Value} {pos : Pos} (t : LamX.Tabs T H) (hP : H P = some (.tbl ps)) (hc : H c = none) (hu : ∀ p ∈ T, p.1 = P → p.2 = q) (tri : TriplesOk ps.toList) :
    Grown T H (upd (upd H P (.tbl (ps ++ #[rawInt pos.line, rawInt pos.col, .ref c]))) c (LamX.CodeO c q)) := by
  have ext : LamX.ExtN H (upd (upd H P (.tbl (ps ++ #[rawInt pos.line, rawInt pos.col, .ref c]))) c (LamX.CodeO c q)) := by
    intro b ob e nt
    rw [upd_ne (ne_of_none e hc), upd_ne]
    · exact e
    · intro z; rw [z, hP] at e; cases e; exact nt ps rfl
  refine ⟨ext, fun p hp => ?_⟩
  obtain ⟨qs, at_, ok, told⟩ := t p hp
  by_cases z : p.1 = P
  · rw [z, hP] at at_
    cases at_
    have eL : (ps ++ #[rawInt pos.line, rawInt pos.col, Value.ref c]).toList = ps.toList ++ [rawInt pos.line, rawInt pos.col, .ref c] := by simp
    refine ⟨_, by rw [z, upd_ne (ne_of_none hP hc), upd_same], by rw [eL]; exact PySem.TriplesOk_snoc _ _ _ _ tri, fun p1 cv hcv => ?_⟩
    rw [eL] at hcv
    rcases LamX.among_app _ tri hcv with old | new
    · obtain ⟨c0, e1, e2⟩ := told p1 cv old
      exact ⟨c0, e1, ext _ _ e2 LamX.codeO_ne⟩
    · exact ⟨c, new, by rw [hu p hp z]; exact upd_same⟩
  · refine ⟨qs, by rw [upd_ne (ne_of_none at_ hc), upd_ne z]; exact at_, ok, fun p1 cv hcv => ?_⟩
    obtain ⟨c0, e1, e2⟩ := told p1 cv hcv
    exact ⟨c0, e1, ext _ _ e2 LamX.codeO_ne⟩
section
variable {X : Cx} {pins : List (Addr × Obj)} {σ : L2.St} {H : Hp} {s : Shared} {tg elt iter : Expr} {scope : Scope} {gpos pos p : Pos} {own : List (Str × Nat)} {c P : Addr} {k : Nat} {wi : TI} {g : TG} {te : TE} {T : List (Addr × Str)}
/-- a generator expression is made -/
def Made (X : Cx) (pins : List (Addr × Obj)) (σ : L2.St) (tg elt iter : Expr) (scope : Scope) (gpos : Pos) (T : List (Addr × Str)) (R : It → Hp → Prop) (u : Value) (s' : Shared) : Prop :=
  ∃ (it : Addr) (fp : List Addr) (tn : Nat → Heap → Prop) (J : It) (H1 H2 : Hp) (s4 : Shared) (h1 : Heap) (a : Addr) (o : Obj) (code : Value), u = .ref a ∧ Turn X.prog X.w X.K tg J fp it tn ∧ tn 0 s4.heap ∧ (∀ b ∈ fp, FpOk X pins H2 b) ∧ Inv X pins σ H2 s4 ∧ Grown T H1 H2 ∧ R J H1 ∧
    h1.Ns s4.heap.objs.size (fun y => if y = ".0" then some (Value.ref it) else none) ∧ (∀ b o, s4.heap.get? b = some o → h1.get? b = some o) ∧ h1.get? a = some o ∧ s4.heap.objs.size < a ∧ (∀ v, o.data ≠ .cell v) ∧ (∀ h : Heap, h.get? a = some o → h.IsGen a s4.gens.size) ∧
    s'.heap = h1 ∧ s'.os = s4.os ∧ s'.gens = s4.gens.push (.fresh (.compStart (.GeneratorExp elt [⟨tg, iter, [], 0⟩] scope gpos) 0 (.ref it) .none (genEnv scope (cloFrom X.env.cells scope.names []) s4.heap.objs.size code builtinsNs X.env)))
theorem gx_make {R : It → Hp → Prop} {Q' : Value → Shared → Prop} (hr : Room k X.A) (TB : LamX.TabB X.base X.mg c P) (hcode : X.env.code = .ref c) (hmT : (P, X.env.qual ++ "<genexpr>") ∈ T) (hu : ∀ p ∈ T, p.1 = P → p.2 = X.env.qual ++ "<genexpr>") (ok : BlkOk X.N X.env.scope scope own) (gx : GxS scope)
    (hi : PI X tg iter wi) (hs : ∀ v, genFold iter X.env v = pure v) (I : Inv X pins σ H s) (h : wi σ H fun J H1 => LamX.Tabs T H1 ∧ R J H1) (hQ : ∀ u s', Made X pins σ tg elt iter scope gpos T R u s' → Q' u s') :
    wpAny (model X.prog X.w) X.A (eval (.GeneratorExp elt [⟨tg, iter, [], 0⟩] scope gpos) X.env) Q' X.xe s := by
  refine wpAny_GeneratorExp_make gx.co (closure_ok (gx_has ok I.ok)) gx.cell gx.dot ok.kind (by have := hr.dp; omega) ?_ hs
  refine thn (hi.run pins s σ H _ I h) fun xv s1 hx => thn hx fun itv s2 h2 => ?_
  obtain ⟨it, fp, tn, J, H1, rfl, I1, turn, st1, f1, tabs, q1⟩ := h2
  obtain ⟨ps, hP, tri, _⟩ := tabs _ hmT
  refine ⟨I1.nolimit, ?_⟩
  have table : s2.heap.get? P = some { cls := .none, data := .fields ps } := I1.hok P _ hP
  have head : PySem.W.CodeHd s2.heap c P := TB.code.keeps fun b u e => I1.bk b u e
  have apart : ∀ b ∈ fp, b ≠ P ∧ b < s2.heap.objs.size := fun b hb => by
    obtain ⟨ob, eb, _⟩ := turn.obj _ _ st1 b hb
    exact ⟨fun z => (by have := (f1 b hb).1; rw [z, hP] at this; cases this), Heap.lt_size eb⟩
  -- whatever the code object: its frame, the generator
  have rest : ∀ (code : Value) (h3 : Heap) (tk : Nat) (H2 : Hp), Heap.ExtBut P s2.heap h3 → Inv X pins σ H2 { s2 with heap := h3, toks := tk } → Grown T H1 H2 → (∀ b ∈ fp, H2 b = none) →
      wpAny (model X.prog X.w) X.A (builtinsFor X.env.globals X.env.builtins) (fun bi s4 =>
        ∀ h', h'.Ns s4.heap.objs.size (fun y => if y = ".0" then some (Value.ref it) else none) → Heap.SameBut s4.heap.objs.size (s4.heap.push { cls := .type "frame", data := .dict #[] }) h' →
          Q' (.ref h'.objs.size) { s4 with
            gens := s4.gens.push (.fresh (.compStart (.GeneratorExp elt [⟨tg, iter, [], 0⟩] scope gpos) 0 (.ref it) .none (genEnv scope (cloFrom X.env.cells scope.names []) s4.heap.objs.size code bi X.env))),
            toks := s4.toks + 1 + 1 + 1,
            heap := h'.push { cls := .type "generator", data := .fields #[.int s4.gens.size 0, .str "<genexpr>" (s4.toks + 1), .str (X.env.qual ++ "<genexpr>") (s4.toks + 1 + 1)] } }) X.xe { s2 with heap := h3, toks := tk } := by
    intro code h3 tk H2 but I3 grown free
    obtain ⟨bm, ob, b1, b2, b3, b4, b5, b6, b7, b8⟩ := TB.bm
    refine wpAny_builtinsFor (m := X.mg) (by rw [I1.ok.glob]; exact (I1.mod.glob.keeps I1.bk).extBut but TB.gP) b1 b2 (but _ _ b4 (I1.bk _ _ b5)) b6 b7 b8 ?_
    intro h' ns' same
    have up : ∀ b ob, h3.get? b = some ob → h'.get? b = some ob := fun b ob e => same.extBut b ob (Nat.ne_of_lt (Heap.lt_size e)) (Heap.get?_push_of_some _ e)
    refine hQ _ _ ⟨it, fp, tn, J, H1, H2, { s2 with heap := h3, toks := tk }, _, h'.objs.size, { cls := .type "generator", data := .fields #[.int s2.gens.size 0, .str "<genexpr>" (tk + 1), .str (X.env.qual ++ "<genexpr>") (tk + 1 + 1)] }, code, rfl, turn, ?_, fun b hb => ⟨free b hb, (f1 b hb).2⟩, I3, grown, q1, ns'.push _,
      fun b ob e => Heap.get?_push_of_some _ (up b ob e), Heap.get?_push_size _ rfl, ?_, fun v z => (nomatch z), fun hh e => ⟨_, _, _, e, rfl, rfl, rfl⟩, rfl, rfl, rfl⟩
    · exact turn.keep _ _ _ st1 fun b hb ob e => but b ob (apart b hb).1 e
    · show h3.objs.size < h'.objs.size
      rw [same.1, Heap.size_push]; exact Nat.lt_succ_self _
  cases found : codeAmong gpos ps.toList with
  | some cv => exact wpAny_genexprCode_hit hcode (head.code table tri) found (rest cv s2.heap s2.toks H1 (Heap.ExtBut.refl _ _) I1 ⟨LamX.ExtN.refl H1, tabs⟩ fun b hb => (f1 b hb).1)
  | none =>
    refine wpAny_genexprCodeX hcode (head.code table tri) (head.tab table) found fun c' h' tk but above _ _ rec' tab' _ => ?_
    obtain ⟨c2, oc, fv, tt, e2, hoc, hfv, hname⟩ := rec'
    cases e2
    have new := I1.hok.fresh above
    have I3 := LamX.inv_table (t' := tk) (q := X.env.qual ++ "<genexpr>") I1 hP (fun b ob hb e => but b ob hb e) tab'.2 above ⟨oc, fv, tt, hoc, hfv, hname⟩
    refine rest _ h' tk _ but I3 (tabs_grow tabs hP new hu tri) fun b hb => ?_
    rw [upd_ne (Nat.ne_of_lt (Nat.lt_of_lt_of_le (apart b hb).2 above)), upd_ne (apart b hb).1]
    exact (f1 b hb).1
def tGa (T : List (Addr × Str)) (st : Bool) (wi : TI) (g : TG) (te : TE) (vs : List Nat) : TE := fun σ H Q => wi σ H fun J H1 => LamX.Tabs T H1 ∧ ∀ H2, Grown T H1 H2 → ∃ W : Nat → Nat → Hp → Prop, (∃ m, W 0 m H2) ∧ ∀ i m H, W i m H →
  (J.stop i H ∧ Q (.bl (!st)) H) ∨ (J.go i H ∧ 0 < m ∧ ∃ Nx : Hp → Prop, (∀ H', Nx H' → ∃ m', m' < m ∧ W (i + 1) m' H') ∧ ∀ x H', J.yld i H x H' → g x (L2.wipe σ vs) H' fun σ2 H2 => L2.wipe σ2 vs = L2.wipe σ vs ∧
    te σ2 H2 fun y H3 => ∃ b, y = .bl b ∧ (b = st → Q (.bl st) H3) ∧ (b ≠ st → Nx H3))
/-- the generator, ready to be run -/
theorem gx_ready {Q : VK} {st : Bool} {u : Value} {s' : Shared} (hc : X.calm = true) (hr : Room (k + 1) X.A) (hN : X.N.Nodup) (ok : BlkOk X.N X.env.scope scope own) (gx : GxS scope)
    (hg : ∀ (s : Shared) (H : Hp) (C : Addr) (code : Value) (fp : List Addr), PG (gxCx X X.A.in1.in1 s H (genEnv scope (cloFrom X.env.cells scope.names []) C code builtinsNs X.env) fp) tg g)
    (he : ∀ (s : Shared) (H : Hp) (C : Addr) (code : Value) (fp : List Addr), PE (gxCx X X.A.in1.in1 s H (genEnv scope (cloFrom X.env.cells scope.names []) C code builtinsNs X.env) fp) elt te)
    (m : Made X pins σ tg elt iter scope gpos T (fun J H1 => ∀ H2, Grown T H1 H2 → ∃ W : Nat → Nat → Hp → Prop, (∃ m, W 0 m H2) ∧ ∀ i m H, W i m H →
      (J.stop i H ∧ Q (.bl (!st)) H) ∨ (J.go i H ∧ 0 < m ∧ ∃ Nx : Hp → Prop, (∀ H', Nx H' → ∃ m', m' < m ∧ W (i + 1) m' H') ∧ ∀ x H', J.yld i H x H' → g x (L2.wipe σ (own.map (·.2))) H' fun σ2 H2 => L2.wipe σ2 (own.map (·.2)) = L2.wipe σ (own.map (·.2)) ∧
        te σ2 H2 fun y H3 => ∃ b, y = .bl b ∧ (b = st → Q (.bl st) H3) ∧ (b ≠ st → Nx H3))) u s') :
    ∃ (Y : Cx) (a : Addr) (o : Obj) (gi n : Nat) (σ' : L2.St) (H' : Hp), u = .ref a ∧ Y.prog = X.prog ∧ Y.w = X.w ∧ (∀ h : Heap, h.get? a = some o → h.IsGen a gi) ∧ Inv Y [(a, o)] σ' H' s' ∧
      (∃ gs, s'.gens[gi]? = some gs ∧ gs.Goes (model Y.prog Y.w) X.A.in1.in1 (fun n s₀ r s₁ => r = .ok .next ∧ GxEnd Y [(a, o)] (Q (.bl (!st))) n s₀ s₁) (GxY Y [(a, o)] st (Q (.bl st))) n (.send .none) (s'.setGen gi .running)) ∧
      ∀ b s'', GxFin Y [(a, o)] Q b s'' → EP X pins σ Q (.bool b) s'' := by
  obtain ⟨it, fp, tn, J, H1, H2, s4, h1, a, o, code, rfl, T, t0, f2, I2, tb, hW, hns, kp, ha, hal, ho, hgen, e1, e2, e3⟩ := m
  obtain ⟨W, ⟨m0, w0⟩, turn⟩ := hW H2 tb
  have f3 : ∀ b ∈ fp, FpOk X pins H2 b ∧ b < s4.heap.objs.size := fun b hb => by
    obtain ⟨ob, e, _⟩ := T.obj _ _ t0 b hb
    exact ⟨f2 b hb, Heap.lt_size e⟩
  obtain ⟨h', g', d', tk', o'⟩ := s'
  have e1 : h' = h1 := e1
  have e2 : o' = s4.os := e2
  have e3 : g' = s4.gens.push _ := e3
  subst e1 e2 e3
  have bare0 : AllBare (s4.gens.push (.fresh (.compStart (.GeneratorExp elt [⟨tg, iter, [], 0⟩] scope gpos) 0 (.ref it) .none (genEnv scope (cloFrom X.env.cells scope.names []) s4.heap.objs.size code builtinsNs X.env)))) := I2.bare.push rfl
  have J0 := gx_start (A := X.A.in1.in1) (code := code) (tk := tk') I2 ok gx hr.hd I2.ok.frames hN f3 hns kp ha hal ho bare0
  have J1 := inv_woke J0 (s' := ({ heap := h', gens := s4.gens.push (.fresh (.compStart (.GeneratorExp elt [⟨tg, iter, [], 0⟩] scope gpos) 0 (.ref it) .none (genEnv scope (cloFrom X.env.cells scope.names []) s4.heap.objs.size code builtinsNs X.env))), drawn := d', toks := tk', os := s4.os } : Shared)) ⟨rfl, rfl, bare0⟩
  have t1 : tn 0 h' := T.keep _ _ _ t0 fun b _ o e => kp b o e
  have wk : ∀ S : Shared, S.os = s4.os → S.heap = h' → AllBare S.gens → Woke S (S.setGen s4.gens.size .running) := fun S _ _ hb => ⟨rfl, rfl, allBare_setGen hb rfl⟩
  have J2 := inv_woke J1 (wk _ rfl rfl bare0)
  refine ⟨gxCx X X.A.in1.in1 s4 H2 (genEnv scope (cloFrom X.env.cells scope.names []) s4.heap.objs.size code builtinsNs X.env) fp, a, o, s4.gens.size, m0, _, H2, rfl, rfl, rfl, hgen, J1, ⟨_, Array.getElem?_push_size .., rfl, ?_⟩, fun b s'' hf => ?_⟩
  · refine seg_gxStart (Y := gxCx X X.A.in1.in1 s4 H2 (genEnv scope (cloFrom X.env.cells scope.names []) s4.heap.objs.size code builtinsNs X.env) fp) (W := W) (vs := own.map (·.2)) (σ := σ) rfl rfl rfl T (hg s4 H2 s4.heap.objs.size code fp) (he s4 H2 s4.heap.objs.size code fp) gx.co (fun {σ' H' s'} I' hn b hb => ?_) turn (Nat.le_refl _) w0 J2 t1 fun b hb => (f2 b hb).1
    refine ⟨hn b hb, (I'.ok.exf b hb).1, I'.ok.exfs b hb, .inl hb, fun x c e => (I'.ok.exf b hb).2 x c e, fun p hp => ?_⟩
    have hp : p ∈ ([] : List (Addr × Obj)) ++ [(a, o)] := hp
    have e : p = (a, o) := by simpa using hp
    subst e
    exact Nat.ne_of_gt (Nat.lt_trans (f3 b hb).2 hal)
  · obtain ⟨σ1, H5, I5, q⟩ := hf
    refine ⟨.bl b, H5, ?_, rfl, q⟩
    exact I2.call' (ch := fp) I5.os I5.base I5.hok I5.bare fun b hb => ⟨(f3 b hb).1.2.2.2.1, (f3 b hb).1.2.1, (f3 b hb).1.2.2.2.2.1, (f3 b hb).1.2.2.2.2.2⟩
/-- f(elt for tg in iter), f one of all, any -/
theorem pe_gx {f : String} {st : Bool} (hc : X.calm = true) (hr : Room (k + 1) X.A) (hgl : Gl X (Str.ofString f)) (hm : X.mg (Str.ofString f) = none) (hv : bootBuiltins (Str.ofString f) = some (.builtin f)) (hn : Str.ofString f ≠ "__name__") (hdb : (Str.ofString f == ("__debug__" : Str)) = false)
    (begin_ : ∀ (A : Around) (a : Addr) (s : Shared) (Q : Value → Shared → Prop) (E : Value → Shared → Prop) (gi : Nat), s.heap.IsGen a gi → codeAny (model X.prog X.w) A (.builtin (f ++ ".loop") ⟨[.ref a], []⟩) (fun r s' => match r with | .ok (.ret v) => Q v s' | .ok _ => False | .error e => E e s') s → wpAny (model X.prog X.w) A (call (.builtin f) [.ref a]) Q E s)
    (L : LoopB X.prog X.w (f ++ ".loop") st) (TB : LamX.TabB X.base X.mg c P) (hcode : X.env.code = .ref c) (hmT : (P, X.env.qual ++ "<genexpr>") ∈ T) (hu : ∀ p ∈ T, p.1 = P → p.2 = X.env.qual ++ "<genexpr>") (hN : X.N.Nodup) (ok : BlkOk X.N X.env.scope scope own) (gx : GxS scope) (hi : PI X tg iter wi)
    (hg : ∀ (s : Shared) (H : Hp) (C : Addr) (code : Value) (fp : List Addr), PG (gxCx X X.A.in1.in1 s H (genEnv scope (cloFrom X.env.cells scope.names []) C code builtinsNs X.env) fp) tg g)
    (he : ∀ (s : Shared) (H : Hp) (C : Addr) (code : Value) (fp : List Addr), PE (gxCx X X.A.in1.in1 s H (genEnv scope (cloFrom X.env.cells scope.names []) C code builtinsNs X.env) fp) elt te)
    (hs : ∀ v, genFold iter X.env v = pure v) (hst : starEach [.GeneratorExp elt [⟨tg, iter, [], 0⟩] scope gpos] X.env = (false, eval (.GeneratorExp elt [⟨tg, iter, [], 0⟩] scope gpos) X.env) :: starEach [] X.env) :
    PE X (.Call (.Name (Str.ofString f) p) [.GeneratorExp elt [⟨tg, iter, [], 0⟩] scope gpos] [] pos) (tGa T st wi g te (own.map (·.2))) := by
  constructor
  intro pins s σ H Q I want
  refine wpAny_Call_Name_kw (ld_blt I hgl hm hv (PyProof.Rows.callWith_builtin1 ?_ hst rfl) hn hdb)
  rw [hst]
  apply Calls.spliced_cons (rest := backTo pos (starEach [] X.env))
  refine gx_make hr TB hcode hmT hu ok gx hi hs I want fun u s' made => Calls.spliced_nil ?_
  obtain ⟨Y, a, o, gi, n, τ, G, rfl, eP, eW, isGen, IY, goes, fin⟩ := gx_ready hc hr hN ok gx hg he made
  refine begin_ X.A a s' _ _ gi (isGen _ (IY.pin (a, o) (by simp)).1) ?_
  rw [← eP, ← eW] at L ⊢
  exact gx_loop (A := X.A) L hr.hd hr.depth isGen (fun b s1 e => fin b s1 e) n s' τ G IY goes
theorem begin_all {prog : Program} {w : World} (A : Around) (a : Addr) (s : Shared) (Q : Value → Shared → Prop) (E : Value → Shared → Prop) (gi : Nat) (h : s.heap.IsGen a gi) (go : codeAny (model prog w) A (.builtin ("all" ++ ".loop") ⟨[.ref a], []⟩) (fun r s' => match r with | .ok (.ret v) => Q v s' | .ok _ => False | .error e => E e s') s) :
    wpAny (model prog w) A (call (.builtin "all") [.ref a]) Q E s :=
  call_function_tree F.kind_all F.plain_all F.entry_all (F.args_all1 _) (wpAny_bind (m := oneArg "all" _) (wpAny_pure (wpAny_bind (wpAny_pyIter_gen h (wpAny_pure ⟨plainId_quiet F.plain_all_loop _, go⟩)))))
theorem begin_any {prog : Program} {w : World} (A : Around) (a : Addr) (s : Shared) (Q : Value → Shared → Prop) (E : Value → Shared → Prop) (gi : Nat) (h : s.heap.IsGen a gi) (go : codeAny (model prog w) A (.builtin ("any" ++ ".loop") ⟨[.ref a], []⟩) (fun r s' => match r with | .ok (.ret v) => Q v s' | .ok _ => False | .error e => E e s') s) :
    wpAny (model prog w) A (call (.builtin "any") [.ref a]) Q E s :=
  call_function_tree F.kind_any F.plain_any F.entry_any (F.args_any1 _) (wpAny_bind (m := oneArg "any" _) (wpAny_pure (wpAny_bind (wpAny_pyIter_gen h (wpAny_pure ⟨plainId_quiet F.plain_any_loop _, go⟩)))))
end
/-- tables have grown -/
def Wd.tab (w : Wd) (H : Hp) : Wd := { w with H := H }
theorem xs_tab {w : Wd} {H : Hp} (t : LamX.ExtN w.H H) : XS w (w.tab H) := ⟨rfl, rfl, rfl, List.prefix_refl _, fun b o e n nt => ⟨t b o e nt, n⟩⟩
theorem RelH.tab {w : Wd} {h : List O} {H : Hp} (r : RelH w h) (t : Grown w.gd.T w.H H) : RelH (w.tab H) h := by
  have a := (xs_tab t.1).step
  refine ⟨r.len, r.nd, fun i o c e1 e2 => ?_, fun b hb => ?_, t.2⟩
  · have q := r.obj i o c e1 e2
    cases o with
    | lst ds => obtain ⟨xs, e, q⟩ := q; exact ⟨xs, t.1 _ _ e lst_notbl, Reps.step a _ _ q⟩
    | ins k ns vs => obtain ⟨C, dx, fs, g, e, en, q⟩ := q; exact ⟨C, dx, fs, g, t.1 _ _ e ins_notbl, en, Reps.step a _ _ q⟩
  · obtain ⟨⟨o, e, nt⟩, hb2⟩ := r.own b hb
    exact ⟨⟨o, t.1 _ _ e nt, nt⟩, hb2⟩
theorem tBl_ok {me : E} {a : S} {h h' : List O} {b : Bool} (e : tBl me a h = .ok b h') : me a h = .ok (.bl b) h' := by
  have e : (me a h).next _ = .ok b h' := e
  obtain ⟨d, h1, e1, e2⟩ := next_ok e
  cases d with
  | bl c => have e2 : R.ok c h1 = R.ok b h' := e2; cases e2; exact e1
  | _ => cases e2
section
variable {K : PySem.W.Frag} {gd : Gd} {Ex : XK} {mi : I} {mg : G} {me : E} {vs vs' : List Nat} {σ : L2.St} {H : Hp} {Q : VK} {P : Addr}
theorem idem_wipe (σ : L2.St) (us : List Nat) : L2.wipe (L2.wipe σ us) us = L2.wipe σ us := wipe_eq (L2.wipe_length _ _) fun j hj => L2.wipe_out hj
theorem ga_all (hv : ∀ i ∈ vs', i ∈ vs) (q : tE K gd Ex (eAll mi mg (tBl me) vs) σ H Q) : tGa gd.T false (tI K gd Ex mi) (tG K gd mg vs') (tE K gd E0 me) vs σ H Q := by
  obtain ⟨w, h, aσ, wk, wg, rfl, r, sl, o⟩ := q
  refine tI_bind wk wg r sl o fun ds h1 w1 s1 k1 g1 r1 sl1 o1 J wd => ⟨by rw [← g1]; exact r1.tT, fun H2 tb => ?_⟩
  obtain ⟨rb, hf, er, o2⟩ := out_noer o1
  have o2 : ∀ w2, XS w1 w2 → RelH w2 hf → Q (.bl rb) w2.H := fun w2 a r2 => (show Out w1 Ex (ret (D.bl rb) hf) _ from o2) w2 a r2 _ (by rw [Rep])
  refine ⟨fun i m H => m = ds.length - i ∧ i ≤ ds.length ∧ ∃ w' h', XS w1 w' ∧ w'.H = H ∧ RelH w' h' ∧ allGo mg (tBl me) (Cf.wipe aσ vs) (ds.drop i) h' = .ok rb hf,
    ⟨_, rfl, Nat.zero_le _, w1.tab H2, h1, xs_tab tb.1, rfl, r1.tab (by rw [g1]; exact tb), er⟩, fun i m H hW => ?_⟩
  obtain ⟨rfl, hi, w', h', xs, rfl, r', ec⟩ := hW
  by_cases hlt : i < ds.length
  · refine .inr ⟨wd.go i w' xs.step hlt, by omega, ?_⟩
    have ed : ds.drop i = ds[i] :: ds.drop (i + 1) := List.drop_eq_getElem_cons hlt
    rw [ed] at ec
    refine ⟨fun H' => ∃ w' h', XS w1 w' ∧ w'.H = H' ∧ RelH w' h' ∧ allGo mg (tBl me) (Cf.wipe aσ vs) (ds.drop (i + 1)) h' = .ok rb hf, fun H' z => ⟨_, by omega, rfl, hlt, z⟩, fun x H' hy => ?_⟩
    obtain ⟨w3, d, s3, rfl, r3, e3, rd⟩ := wd.yld i w' h' x H' xs.step r' hlt hy
    rw [List.getElem?_eq_getElem hlt] at e3
    cases e3
    have ec : (match mg ds[i] (Cf.wipe aσ vs) with
      | none => no
      | some σ1 => tBl me σ1 >>= fun b => if b = true then allGo mg (tBl me) (Cf.wipe aσ vs) (ds.drop (i + 1)) else ret false) h' = .ok rb hf := ec
    cases eg : mg ds[i] (Cf.wipe aσ vs) with
    | none => rw [eg] at ec; cases ec
    | some a1 =>
      rw [eg] at ec
      have x3 := xs.trans s3
      refine ⟨w3, h', Cf.wipe aσ vs, ds[i], a1, x3.k.trans k1, x3.g.trans g1, rfl, r3, (sl1.xs x3 r1).wipe vs, rd, eg, fun σ2 s2 l2 ag => ⟨?_, ?_⟩⟩
      · rw [wipe_eq l2 (vs := vs) (fun j hj => ag j fun z => hj (hv j z))]
        exact idem_wipe σ vs
      · obtain ⟨b, h4, et, ec⟩ := next_ok ec
        refine ⟨w3, h', a1, x3.k.trans k1, x3.g.trans g1, rfl, r3, s2, Out.ok (tBl_ok et) fun w4 s4 r4 v rv => ?_⟩
        have x4 := x3.trans s4
        rw [Rep] at rv
        refine ⟨b, rv, fun hb => ?_, fun hb => ?_⟩
        · subst hb
          have ec : R.ok false h4 = R.ok rb hf := ec
          cases ec
          exact o2 w4 x4 r4
        · have hb : b = true := by cases b; exact absurd rfl hb; rfl
          subst hb
          exact ⟨w4, h4, x4, rfl, r4, ec⟩
  · have e : i = ds.length := Nat.le_antisymm hi (Nat.le_of_not_lt hlt)
    subst e
    rw [List.drop_length] at ec
    have ec : R.ok true h' = R.ok rb hf := ec
    cases ec
    exact .inl ⟨wd.stop w' xs.step, o2 w' xs r'⟩
theorem ga_any (hv : ∀ i ∈ vs', i ∈ vs) (q : tE K gd Ex (eAny mi mg (tBl me) vs) σ H Q) : tGa gd.T true (tI K gd Ex mi) (tG K gd mg vs') (tE K gd E0 me) vs σ H Q := by
  obtain ⟨w, h, aσ, wk, wg, rfl, r, sl, o⟩ := q
  refine tI_bind wk wg r sl o fun ds h1 w1 s1 k1 g1 r1 sl1 o1 J wd => ⟨by rw [← g1]; exact r1.tT, fun H2 tb => ?_⟩
  obtain ⟨rb, hf, er, o2⟩ := out_noer o1
  have o2 : ∀ w2, XS w1 w2 → RelH w2 hf → Q (.bl rb) w2.H := fun w2 a r2 => (show Out w1 Ex (ret (D.bl rb) hf) _ from o2) w2 a r2 _ (by rw [Rep])
  refine ⟨fun i m H => m = ds.length - i ∧ i ≤ ds.length ∧ ∃ w' h', XS w1 w' ∧ w'.H = H ∧ RelH w' h' ∧ anyGo mg (tBl me) (Cf.wipe aσ vs) (ds.drop i) h' = .ok rb hf,
    ⟨_, rfl, Nat.zero_le _, w1.tab H2, h1, xs_tab tb.1, rfl, r1.tab (by rw [g1]; exact tb), er⟩, fun i m H hW => ?_⟩
  obtain ⟨rfl, hi, w', h', xs, rfl, r', ec⟩ := hW
  by_cases hlt : i < ds.length
  · refine .inr ⟨wd.go i w' xs.step hlt, by omega, ?_⟩
    have ed : ds.drop i = ds[i] :: ds.drop (i + 1) := List.drop_eq_getElem_cons hlt
    rw [ed] at ec
    refine ⟨fun H' => ∃ w' h', XS w1 w' ∧ w'.H = H' ∧ RelH w' h' ∧ anyGo mg (tBl me) (Cf.wipe aσ vs) (ds.drop (i + 1)) h' = .ok rb hf, fun H' z => ⟨_, by omega, rfl, hlt, z⟩, fun x H' hy => ?_⟩
    obtain ⟨w3, d, s3, rfl, r3, e3, rd⟩ := wd.yld i w' h' x H' xs.step r' hlt hy
    rw [List.getElem?_eq_getElem hlt] at e3
    cases e3
    have ec : (match mg ds[i] (Cf.wipe aσ vs) with
      | none => no
      | some σ1 => tBl me σ1 >>= fun b => if b = true then ret true else anyGo mg (tBl me) (Cf.wipe aσ vs) (ds.drop (i + 1))) h' = .ok rb hf := ec
    cases eg : mg ds[i] (Cf.wipe aσ vs) with
    | none => rw [eg] at ec; cases ec
    | some a1 =>
      rw [eg] at ec
      have x3 := xs.trans s3
      refine ⟨w3, h', Cf.wipe aσ vs, ds[i], a1, x3.k.trans k1, x3.g.trans g1, rfl, r3, (sl1.xs x3 r1).wipe vs, rd, eg, fun σ2 s2 l2 ag => ⟨?_, ?_⟩⟩
      · rw [wipe_eq l2 (vs := vs) (fun j hj => ag j fun z => hj (hv j z))]
        exact idem_wipe σ vs
      · obtain ⟨b, h4, et, ec⟩ := next_ok ec
        refine ⟨w3, h', a1, x3.k.trans k1, x3.g.trans g1, rfl, r3, s2, Out.ok (tBl_ok et) fun w4 s4 r4 v rv => ?_⟩
        have x4 := x3.trans s4
        rw [Rep] at rv
        refine ⟨b, rv, fun hb => ?_, fun hb => ?_⟩
        · subst hb
          have ec : R.ok true h4 = R.ok rb hf := ec
          cases ec
          exact o2 w4 x4 r4
        · have hb : b = false := by cases b; rfl; exact absurd rfl hb
          subst hb
          exact ⟨w4, h4, x4, rfl, r4, ec⟩
  · have e : i = ds.length := Nat.le_antisymm hi (Nat.le_of_not_lt hlt)
    subst e
    rw [List.drop_length] at ec
    have ec : R.ok false h' = R.ok rb hf := ec
    cases ec
    exact .inl ⟨wd.stop w' xs.step, o2 w' xs r'⟩
end
section
variable {X : Cx} {gd : Gd} {Ex : XK} {tg elt iter : Expr} {scope : Scope} {gpos pos p : Pos} {own : List (Str × Nat)} {c P : Addr} {k : Nat} {mi : I} {mg : G} {me : E} {vs' : List Nat}
/-- what a def has for its generator expressions -/
structure GxD (X : Cx) (gd : Gd) (k : Nat) (c P : Addr) : Prop where
  room : Room (k + 1) X.A
  tb : LamX.TabB X.base X.mg c P
  code : X.env.code = .ref c
  nd : X.N.Nodup
  calm : X.calm = true
  mem : (P, X.env.qual ++ "<genexpr>") ∈ gd.T
  one : ∀ p ∈ gd.T, p.1 = P → p.2 = X.env.qual ++ "<genexpr>"
theorem R_all (G : GxD X gd k c P) (hgl : Gl X "all") (hm : X.mg "all" = none) (ok : BlkOk X.N X.env.scope scope own) (gx : GxS scope) (hv : ∀ i ∈ vs', i ∈ own.map (·.2)) (hi : PI X tg iter (tI X.K gd Ex mi))
    (hg : ∀ (s : Shared) (H : Hp) (C : Addr) (code : Value) (fp : List Addr), PG (gxCx X X.A.in1.in1 s H (genEnv scope (cloFrom X.env.cells scope.names []) C code builtinsNs X.env) fp) tg (tG X.K gd mg vs'))
    (he : ∀ (s : Shared) (H : Hp) (C : Addr) (code : Value) (fp : List Addr), PE (gxCx X X.A.in1.in1 s H (genEnv scope (cloFrom X.env.cells scope.names []) C code builtinsNs X.env) fp) elt (tE X.K gd E0 me))
    (hs : ∀ v, genFold iter X.env v = pure v := by intro _; rfl)
    (hst : starEach [.GeneratorExp elt [⟨tg, iter, [], 0⟩] scope gpos] X.env = (false, eval (.GeneratorExp elt [⟨tg, iter, [], 0⟩] scope gpos) X.env) :: starEach [] X.env := by rfl) :
    PE X (.Call (.Name "all" p) [.GeneratorExp elt [⟨tg, iter, [], 0⟩] scope gpos] [] pos) (tE X.K gd Ex (eAll mi mg (tBl me) (own.map (·.2)))) :=
  PE.imp (pe_gx (f := "all") G.calm G.room hgl hm PyProof.Rows.boot_all (by decide) (by decide) begin_all loop_all G.tb G.code G.mem G.one G.nd ok gx hi hg he hs hst) fun σ H Q h => ga_all hv h
theorem R_any (G : GxD X gd k c P) (hgl : Gl X "any") (hm : X.mg "any" = none) (ok : BlkOk X.N X.env.scope scope own) (gx : GxS scope) (hv : ∀ i ∈ vs', i ∈ own.map (·.2)) (hi : PI X tg iter (tI X.K gd Ex mi))
    (hg : ∀ (s : Shared) (H : Hp) (C : Addr) (code : Value) (fp : List Addr), PG (gxCx X X.A.in1.in1 s H (genEnv scope (cloFrom X.env.cells scope.names []) C code builtinsNs X.env) fp) tg (tG X.K gd mg vs'))
    (he : ∀ (s : Shared) (H : Hp) (C : Addr) (code : Value) (fp : List Addr), PE (gxCx X X.A.in1.in1 s H (genEnv scope (cloFrom X.env.cells scope.names []) C code builtinsNs X.env) fp) elt (tE X.K gd E0 me))
    (hs : ∀ v, genFold iter X.env v = pure v := by intro _; rfl)
    (hst : starEach [.GeneratorExp elt [⟨tg, iter, [], 0⟩] scope gpos] X.env = (false, eval (.GeneratorExp elt [⟨tg, iter, [], 0⟩] scope gpos) X.env) :: starEach [] X.env := by rfl) :
    PE X (.Call (.Name "any" p) [.GeneratorExp elt [⟨tg, iter, [], 0⟩] scope gpos] [] pos) (tE X.K gd Ex (eAny mi mg (tBl me) (own.map (·.2)))) :=
  PE.imp (pe_gx (f := "any") G.calm G.room hgl hm PyProof.Rows.boot_any (by decide) (by decide) begin_any loop_any G.tb G.code G.mem G.one G.nd ok gx hi hg he hs hst) fun σ H Q h => ga_any hv h
theorem gx_room {k : Nat} {A : Around} {env : Env} (r : Room (k + 1) A) : Room k (A.in1.in1.deeper env) :=
  ⟨r.hd, by have := r.dp; show A.depth + 1 + 3 * k + 5 < _; omega, by have := r.un; show A.units + 1 + 1 + 3 + 16 * k + 200 < _; omega⟩
end
end Cf
set_option Elab.async false
set_option linter.all false
set_option maxRecDepth 100000
set_option maxHeartbeats 2000000
/-! CfI: statements; a def by its mirror; calls. -/
namespace Cf
open PySem PySem.Spec PyProof.Rows L2

/-- since the def's entry -/
structure Fr (w0 w : Wd) : Prop where
  k : w.K = w0.K
  g : w.gd = w0.gd
  n : ∀ b, w0.N b → w.N b
  pre : w0.ρ <+: w.ρ
  keep : ∀ b o, w0.H b = some o → b ∉ w0.ρ → NoTbl o → w.H b = some o ∧ b ∉ w.ρ
theorem Fr.refl (w : Wd) : Fr w w := ⟨rfl, rfl, fun _ h => h, List.prefix_refl _, fun _ _ e n _ => ⟨e, n⟩⟩
theorem Fr.xs {w0 w w' : Wd} (a : Fr w0 w) (b : XS w w') : Fr w0 w' :=
  ⟨b.k.trans a.k, b.g.trans a.g, fun c h => by rw [b.n]; exact a.n c h, a.pre.trans b.pre, fun c o e n t => let ⟨e1, n1⟩ := a.keep c o e n t; b.keep c o e1 n1 t⟩
/-- what was owned since is let go -/
def Wd.back (w w0 : Wd) : Wd := { w with N := w0.N }
theorem Fr.back {w0 w : Wd} {h : List O} (a : Fr w0 w) (r : RelH w h) : XS w0 (w.back w0) ∧ RelH (w.back w0) h ∧ Step w (w.back w0) := by
  obtain ⟨st, r2⟩ := r.drop (N := w0.N) a.n
  exact ⟨⟨a.k, a.g, rfl, a.pre, fun b o e n t => a.keep b o e n t⟩, r2, st⟩

/-- a place that the def's caller does not look at -/
def Free (w0 : Wd) (a : Addr) : Prop := ¬ w0.N a ∧ ∀ o, w0.H a = some o → a ∉ w0.ρ → ¬ NoTbl o
/-- the slots of a def: what is owned lies apart -/
structure SlS (w0 w : Wd) (σ : L2.St) (aσ : S) : Prop where
  len : σ.length = aσ.length
  val : ∀ (i : Nat) (d : D), aσ[i]? = some (.val d) → ∃ v, σ[i]? = some (some v) ∧ Rep w d v
  own : ∃ T : Nat → List Addr, (∀ (i : Nat) (d : D), aσ[i]? = some (.own d) → ∃ v, σ[i]? = some (some v) ∧ Own w d v (T i)) ∧ (∀ i j, i ≠ j → ∀ a ∈ T i, a ∉ T j) ∧ ∀ i, (T i).Nodup ∧ ∀ a ∈ T i, Free w0 a
theorem SlS.sl {w0 w : Wd} {σ : L2.St} {aσ : S} (s : SlS w0 w σ aσ) : SlE w σ aσ :=
  ⟨s.len, s.val, fun i d e => let ⟨T, h, _⟩ := s.own; let ⟨v, e1, e2⟩ := h i d e; ⟨v, T i, e1, e2⟩⟩
theorem SlS.xs {w0 w w' : Wd} {h : List O} {σ : L2.St} {aσ : S} (s : SlS w0 w σ aσ) (a : XS w w') (r : RelH w h) : SlS w0 w' σ aσ :=
  ⟨s.len, (s.sl.xs a r).val, let ⟨T, h1, h2⟩ := s.own; ⟨T, fun i d e => let ⟨v, e1, e2⟩ := h1 i d e; ⟨v, e1, e2.xs a r.own⟩, h2⟩⟩
theorem set_own {aσ : S} {i j : Nat} {x : Sl} {d : D} (hx : ∀ d, x ≠ .own d) (e : (aσ.set i x)[j]? = some (.own d)) : j ≠ i ∧ aσ[j]? = some (.own d) := by
  by_cases hj : i = j
  · subst hj
    have hlt : i < aσ.length := by
      have := (List.getElem?_eq_some_iff.mp e).1
      rw [List.length_set] at this; exact this
    rw [List.getElem?_set_self hlt] at e
    exact absurd (Option.some.inj e) (hx d)
  · rw [List.getElem?_set_ne hj] at e
    exact ⟨Ne.symm hj, e⟩
theorem SlS.set {w0 w : Wd} {σ : L2.St} {aσ : S} {i : Nat} {d : D} {v : V} (s : SlS w0 w σ aσ) (r : Rep w d v) : SlS w0 w (σ.set i (some v)) (aσ.set i (.val d)) := by
  refine ⟨(s.sl.set r).len, (s.sl.set r).val, ?_⟩
  obtain ⟨T, h1, h2, h3⟩ := s.own
  refine ⟨fun j => T j, fun j d' e => ?_, h2, h3⟩
  obtain ⟨hj, e'⟩ := set_own (fun d z => by cases z) e
  obtain ⟨u, e1, e2⟩ := h1 j d' e'
  exact ⟨u, by rw [List.getElem?_set_ne (Ne.symm hj)]; exact e1, e2⟩
/-- by slots that hold what the mirror says -/
theorem SlS.of {w0 w : Wd} {σ σ' : L2.St} {aσ aσ' : S} (s : SlS w0 w σ aσ) (s' : SlE w σ' aσ') (ag : ∀ (j : Nat), σ'[j]? = σ[j]? ∨ ∀ d : D, aσ'[j]? ≠ some (Sl.own d)) (ho : ∀ (j : Nat) (d : D), aσ'[j]? = some (Sl.own d) → aσ[j]? = some (Sl.own d)) : SlS w0 w σ' aσ' := by
  refine ⟨s'.len, s'.val, ?_⟩
  obtain ⟨T, h1, h2, h3⟩ := s.own
  refine ⟨T, fun j d e => ?_, h2, h3⟩
  obtain ⟨u, e1, e2⟩ := h1 j d (ho j d e)
  rcases ag j with z | z
  · exact ⟨u, z.trans e1, e2⟩
  · exact absurd e (z d)

/-! ### statements -/
def OutS (w0 w1 : Wd) (Ex : XK) (D : L2.Ends) : RS → Prop
  | .nx aσ h => ∀ w σ, Fr w0 w → Step w1 w → RelH w h → SlS w0 w σ aσ → D.nx σ w.H
  | .bk aσ h => ∀ w σ, Fr w0 w → Step w1 w → RelH w h → SlS w0 w σ aσ → D.bk σ w.H
  | .ct aσ h => ∀ w σ, Fr w0 w → Step w1 w → RelH w h → SlS w0 w σ aσ → D.ct σ w.H
  | .rt d h => ∀ w v, XS w0 w → RelH w h → Rep w d v → D.rt v w.H
  | .er c vs h => ∀ w C dx, XS w0 w → RelH w h → w0.gd.cl c = some C → XdRep w dx (exFields c) vs → Ex (.ref C) (some dx) w.H
  | .no => False
theorem OutS.step {w0 w1 w2 : Wd} {Ex : XK} {D : L2.Ends} {r : RS} (o : OutS w0 w1 Ex D r) (s : Step w1 w2) : OutS w0 w2 Ex D r := by
  cases r with
  | no => exact o
  | rt d h => exact o
  | er c vs h => exact o
  | nx a h => exact fun w σ f t => o w σ f (s.trans t)
  | bk a h => exact fun w σ f t => o w σ f (s.trans t)
  | ct a h => exact fun w σ f t => o w σ f (s.trans t)
def tS (K : PySem.W.Frag) (gd : Gd) (Ex : XK) (m : Ms) : TS := fun D σ H => ∃ w0 w1 w h aσ, Fr w0 w ∧ Step w1 w ∧ w.K = K ∧ w.gd = gd ∧ w.H = H ∧ RelH w h ∧ SlS w0 w σ aσ ∧ OutS w0 w1 Ex D (m aσ h)
theorem PS.imp {X : Cx} {st : Stmt} {t t' : TS} (h : PS X st t) (i : ∀ D σ H, t' D σ H → t D σ H) : PS X st t' := ⟨fun pins s σ H D I q => h.run pins s σ H D I (i D σ H q)⟩
theorem PSs.imp {X : Cx} {st : List Stmt} {t t' : TS} (h : PSs X st t) (i : ∀ D σ H, t' D σ H → t D σ H) : PSs X st t' := ⟨fun pins s σ H D I q => h.run pins s σ H D I (i D σ H q)⟩
theorem XdRep.step {w w' : Wd} (a : Step w w') {dx : Addr} {ns : List Str} {vs : List D} {fs : List (Str × V)} (e : w'.H dx = some (.xd fs)) (h : fs.map (·.1) = ns) (r : Reps w vs (fs.map (·.2))) : XdRep w' dx ns vs := ⟨fs, e, h, Reps.step a _ _ r⟩
/-- an expression in a statement -/
theorem outS_out {α : Type} {w0 w1 w : Wd} {Ex : XK} {D : L2.Ends} {r : R α} {h0 : List O} {f : α → List O → RS} (fr : Fr w0 w) (st : Step w1 w) (o : OutS w0 w1 Ex D (r.stmt f)) :
    Out w Ex r (fun d h1 w' => Fr w0 w' ∧ Step w1 w' ∧ XS w w' ∧ RelH w' h1 ∧ OutS w0 w1 Ex D (f d h1)) := by
  cases r with
  | no => exact o
  | ok d h1 => exact fun w' s' r' => ⟨fr.xs s', st.trans s'.step, s', r', o⟩
  | er c vs h1 =>
    intro w' C dx s' r' hc hx
    obtain ⟨x1, r2, st2⟩ := (fr.xs s').back r'
    obtain ⟨fs, e1, e2, e3⟩ := hx
    exact o (w'.back w0) C dx x1 r2 (by rw [← fr.g]; exact hc) ⟨fs, e1, e2, Reps.step st2 _ _ e3⟩
theorem tS_E {K : PySem.W.Frag} {gd : Gd} {Ex : XK} {Z : L2.Ends} {e : E} {f : D → List O → RS} {w0 w1 w : Wd} {h : List O} {σ : L2.St} {aσ : S} {Q : V → Hp → Prop} (fr : Fr w0 w) (st : Step w1 w) (wk : w.K = K) (wg : w.gd = gd) (r : RelH w h) (sl : SlS w0 w σ aσ) (o : OutS w0 w1 Ex Z ((e aσ h).stmt f))
    (hq : ∀ (d : D) (h1 : List O) (w' : Wd) (v : V), Fr w0 w' → Step w1 w' → w'.K = K → w'.gd = gd → RelH w' h1 → SlS w0 w' σ aσ → Rep w' d v → OutS w0 w1 Ex Z (f d h1) → Q v w'.H) : tE K gd Ex e σ w.H Q := by
  refine ⟨w, h, aσ, wk, wg, rfl, r, sl.sl, ?_⟩
  exact Out.mono (outS_out (h0 := h) fr st o) fun d h1 w' ⟨f1, s1, x1, r1, o1⟩ v rv => hq d h1 w' v f1 s1 (x1.k.trans wk) (x1.g.trans wg) r1 (sl.xs x1 r) rv o1
theorem tS_T {K : PySem.W.Frag} {gd : Gd} {Ex : XK} {Z : L2.Ends} {e : T} {f : Bool → List O → RS} {w0 w1 w : Wd} {h : List O} {σ : L2.St} {aσ : S} {Q : Bool → Hp → Prop} (fr : Fr w0 w) (st : Step w1 w) (wk : w.K = K) (wg : w.gd = gd) (r : RelH w h) (sl : SlS w0 w σ aσ) (o : OutS w0 w1 Ex Z ((e aσ h).stmt f))
    (hq : ∀ (d : Bool) (h1 : List O) (w' : Wd), Fr w0 w' → Step w1 w' → w'.K = K → w'.gd = gd → RelH w' h1 → SlS w0 w' σ aσ → OutS w0 w1 Ex Z (f d h1) → Q d w'.H) : tT K gd Ex e σ w.H Q := by
  refine ⟨w, h, aσ, wk, wg, rfl, r, sl.sl, ?_⟩
  exact Out.mono (outS_out (h0 := h) fr st o) fun d h1 w' ⟨f1, s1, x1, r1, o1⟩ => hq d h1 w' f1 s1 (x1.k.trans wk) (x1.g.trans wg) r1 (sl.xs x1 r) o1
theorem tS_A {K : PySem.W.Frag} {gd : Gd} {Ex : XK} {Z : L2.Ends} {es : List E} {f : List D → List O → RS} {w0 w1 w : Wd} {h : List O} {σ : L2.St} {aσ : S} {Q : List V → Hp → Prop} (fr : Fr w0 w) (st : Step w1 w) (wk : w.K = K) (wg : w.gd = gd) (r : RelH w h) (sl : SlS w0 w σ aσ) (o : OutS w0 w1 Ex Z ((evs es aσ h).stmt f))
    (hq : ∀ (d : List D) (h1 : List O) (w' : Wd) (v : List V), Fr w0 w' → Step w1 w' → w'.K = K → w'.gd = gd → RelH w' h1 → SlS w0 w' σ aσ → Reps w' d v → OutS w0 w1 Ex Z (f d h1) → Q v w'.H) : tA K gd Ex es σ w.H Q := by
  refine ⟨w, h, aσ, wk, wg, rfl, r, sl.sl, ?_⟩
  exact Out.mono (outS_out (h0 := h) fr st o) fun d h1 w' ⟨f1, s1, x1, r1, o1⟩ v rv => hq d h1 w' v f1 s1 (x1.k.trans wk) (x1.g.trans wg) r1 (sl.xs x1 r) rv o1
theorem tS_I {K : PySem.W.Frag} {gd : Gd} {Ex : XK} {Z : L2.Ends} {e : I} {f : List D → List O → RS} {w0 w1 w : Wd} {h : List O} {σ : L2.St} {aσ : S} {Q : It → Hp → Prop} (fr : Fr w0 w) (st : Step w1 w) (wk : w.K = K) (wg : w.gd = gd) (r : RelH w h) (sl : SlS w0 w σ aσ) (o : OutS w0 w1 Ex Z ((e aσ h).stmt f))
    (hq : ∀ (d : List D) (h1 : List O) (w' : Wd), Fr w0 w' → Step w1 w' → w'.K = K → w'.gd = gd → RelH w' h1 → SlS w0 w' σ aσ → OutS w0 w1 Ex Z (f d h1) → ∀ J, WalkD w' d J → Q J w'.H) : tI K gd Ex e σ w.H Q := by
  refine ⟨w, h, aσ, wk, wg, rfl, r, sl.sl, ?_⟩
  exact Out.mono (outS_out (h0 := h) fr st o) fun d h1 w' ⟨f1, s1, x1, r1, o1⟩ J wd => hq d h1 w' f1 s1 (x1.k.trans wk) (x1.g.trans wg) r1 (sl.xs x1 r) o1 J wd

/-- what a target does to the slots -/
structure GOk (g : G) (vs : List Nat) : Prop where
  out : ∀ d a a', g d a = some a' → ∀ j : Nat, j ∉ vs → a'[j]? = a[j]?
  nown : ∀ d a a', g d a = some a' → ∀ (j : Nat) (d' : D), a'[j]? = some (Sl.own d') → a[j]? = some (Sl.own d')
  own : ∀ d a a', g d a = some a' → ∀ j ∈ vs, ∀ d' : D, a'[j]? ≠ some (Sl.own d')
theorem GOk_var {i : Nat} : GOk (gVar i) [i] := by
  refine ⟨fun d a a' e j hj => ?_, fun d a a' e j d' h => ?_, fun d a a' e j hj d' h => ?_⟩
  · cases e
    exact List.getElem?_set_ne fun z => hj (by rw [z]; exact List.mem_singleton.mpr rfl)
  · cases e
    exact (set_own (fun d z => by cases z) h).2
  · cases e
    exact (set_own (fun d z => by cases z) h).1 (List.mem_singleton.mp hj)
structure GsOk (gs : List G) (vs : List Nat) : Prop where
  out : ∀ ds a a', gsGo gs ds a = some a' → ∀ j : Nat, j ∉ vs → a'[j]? = a[j]?
  nown : ∀ ds a a', gsGo gs ds a = some a' → ∀ (j : Nat) (d' : D), a'[j]? = some (Sl.own d') → a[j]? = some (Sl.own d')
  own : ∀ ds a a', gsGo gs ds a = some a' → ∀ j ∈ vs, ∀ d' : D, a'[j]? ≠ some (Sl.own d')
theorem GsOk_nil : GsOk [] [] := by
  refine ⟨fun ds a a' e j hj => ?_, fun ds a a' e j d' h => ?_, fun ds a a' e j hj => nomatch hj⟩
  · cases ds with
    | nil => cases e; rfl
    | cons d ds => cases e
  · cases ds with
    | nil => cases e; exact h
    | cons d ds => cases e
theorem GsOk_cons {g : G} {gs : List G} {vs ws : List Nat} (h1 : GOk g vs) (h2 : GsOk gs ws) : GsOk (g :: gs) (vs ++ ws) := by
  have key : ∀ ds a a', gsGo (g :: gs) ds a = some a' → ∃ d r a1, ds = d :: r ∧ g d a = some a1 ∧ gsGo gs r a1 = some a' := by
    intro ds a a' e
    cases ds with
    | nil => cases e
    | cons d r =>
      have e : (g d a).bind (fun σ' => gsGo gs r σ') = some a' := e
      obtain ⟨a1, e1, e2⟩ := Option.bind_eq_some_iff.mp e
      exact ⟨d, r, a1, rfl, e1, e2⟩
  refine ⟨fun ds a a' e j hj => ?_, fun ds a a' e j d' h => ?_, fun ds a a' e j hj d' h => ?_⟩
  · obtain ⟨d, r, a1, rfl, e1, e2⟩ := key ds a a' e
    exact (h2.out _ _ _ e2 j fun z => hj (List.mem_append_right _ z)).trans (h1.out _ _ _ e1 j fun z => hj (List.mem_append_left _ z))
  · obtain ⟨d, r, a1, rfl, e1, e2⟩ := key ds a a' e
    exact h1.nown _ _ _ e1 j d' (h2.nown _ _ _ e2 j d' h)
  · obtain ⟨d, r, a1, rfl, e1, e2⟩ := key ds a a' e
    rcases List.mem_append.mp hj with z | z
    · exact h1.own _ _ _ e1 j z d' (h2.nown _ _ _ e2 j d' h)
    · exact h2.own _ _ _ e2 j z d' h
theorem GOk_tup {gs : List G} {vs : List Nat} (h : GsOk gs vs) : GOk (gTup gs) vs := by
  refine ⟨fun d a a' e => ?_, fun d a a' e => ?_, fun d a a' e => ?_⟩
  all_goals cases d with
    | tup ds => first | exact h.out ds a a' e | exact h.nown ds a a' e | exact h.own ds a a' e
    | _ => cases e
theorem SlS.goes {w0 w : Wd} {σ σ' : L2.St} {aσ aσ' : S} {g : G} {vs : List Nat} {d : D} (s : SlS w0 w σ aσ) (ok : GOk g vs) (e : g d aσ = some aσ') (s' : SlE w σ' aσ') (ag : ∀ j, j ∉ vs → σ'[j]? = σ[j]?) : SlS w0 w σ' aσ' :=
  s.of s' (fun j => by
    by_cases hj : j ∈ vs
    · exact .inr (ok.own d aσ aσ' e j hj)
    · exact .inl (ag j hj)) fun j d' h => ok.nown d aσ aσ' e j d' h

section
variable {X : Cx} {gd : Gd} {Ex : XK} {e a b c tg iter : Expr} {me ma mb : E} {mt : T} {ms mu : Ms} {mi : I} {mg : G} {pos : Pos} {st : Stmt} {rest sa sb : List Stmt} {vs : List Nat}
theorem SS_nil : PSs X [] (tS X.K gd Ex sPass) := by
  refine PSs.imp pss_nil fun D σ H h => ?_
  obtain ⟨w0, w1, w, h, aσ, fr, st, wk, wg, rfl, r, sl, o⟩ := h
  exact o w σ fr st r sl
theorem SS_cons (h1 : PS X st (tS X.K gd Ex ms)) (h2 : PSs X rest (tS X.K gd Ex mu)) : PSs X (st :: rest) (tS X.K gd Ex (sSeq ms mu)) := by
  refine PSs.imp (pss_cons h1 h2) fun D σ H h => ?_
  obtain ⟨w0, w1, w, h, aσ, fr, st, wk, wg, rfl, r, sl, o⟩ := h
  refine ⟨w0, w1, w, h, aσ, fr, st, wk, wg, rfl, r, sl, ?_⟩
  have o : OutS w0 w1 Ex D (match ms aσ h with | .nx σ' h' => mu σ' h' | r => r) := o
  cases e : ms aσ h with
  | nx a1 h1 =>
    rw [e] at o
    exact fun w' σ' f' s' r' sl' => ⟨w0, w1, w', h1, a1, f', s', f'.k.trans (fr.k.symm.trans wk), f'.g.trans (fr.g.symm.trans wg), rfl, r', sl', o⟩
  | rt d h1 => rw [e] at o; exact o
  | bk a1 h1 => rw [e] at o; exact o
  | ct a1 h1 => rw [e] at o; exact o
  | er c vs h1 => rw [e] at o; exact o
  | no => rw [e] at o; exact o
theorem SS_one (h1 : PS X st (tS X.K gd Ex ms)) : PSs X [st] (tS X.K gd Ex ms) := by
  refine PSs.imp (pss_one h1) fun D σ H h => h
theorem S_pass : PS X (.Pass pos) (tS X.K gd Ex sPass) := by
  refine PS.imp ps_pass fun D σ H h => ?_
  obtain ⟨w0, w1, w, h, aσ, fr, st, wk, wg, rfl, r, sl, o⟩ := h
  exact o w σ fr st r sl
theorem S_doc {x : Str} {j : Nat} {pos' : Pos} : PS X (.Expr (.Constant (.str x) j pos) pos') (tS X.K gd Ex sPass) := by
  refine PS.imp ps_doc fun D σ H h => ?_
  obtain ⟨w0, w1, w, h, aσ, fr, st, wk, wg, rfl, r, sl, o⟩ := h
  exact o w σ fr st r sl
theorem S_break : PS X (.Break pos) (tS X.K gd Ex sBreak) := by
  refine PS.imp ps_break fun D σ H h => ?_
  obtain ⟨w0, w1, w, h, aσ, fr, st, wk, wg, rfl, r, sl, o⟩ := h
  exact o w σ fr st r sl
theorem S_cont : PS X (.Continue pos) (tS X.K gd Ex sCont) := by
  refine PS.imp ps_continue fun D σ H h => ?_
  obtain ⟨w0, w1, w, h, aσ, fr, st, wk, wg, rfl, r, sl, o⟩ := h
  exact o w σ fr st r sl
theorem S_expr (he : PE X e (tE X.K gd Ex me)) (hs : swapsWith e none pos.line X.env = pure false := by rfl) : PS X (.Expr e pos) (tS X.K gd Ex (sExpr me)) := by
  refine PS.imp (ps_expr he hs) fun D σ H h => ?_
  obtain ⟨w0, w1, w, h, aσ, fr, st, wk, wg, rfl, r, sl, o⟩ := h
  exact tS_E fr st wk wg r sl o fun d h1 w' v f1 s1 k1 g1 r1 sl1 rv o1 => o1 w' σ f1 s1 r1 sl1
theorem S_ret (he : PE X e (tE X.K gd Ex me)) : PS X (.Return (some e) pos) (tS X.K gd Ex (sRet me)) := by
  refine PS.imp (ps_ret he) fun D σ H h => ?_
  obtain ⟨w0, w1, w, h, aσ, fr, st, wk, wg, rfl, r, sl, o⟩ := h
  refine tS_E fr st wk wg r sl o fun d h1 w' v f1 s1 k1 g1 r1 sl1 rv o1 => ?_
  obtain ⟨x1, r2, st2⟩ := f1.back r1
  exact o1 (w'.back w0) v x1 r2 (Rep.step st2 _ _ rv)
theorem S_set {i : Nat} {x : Str} {pos' : Pos} (hN : X.N.Nodup) (hi : X.N[i]? = some x) (hx : Loc X.env.scope x) (he : PE X e (tE X.K gd Ex me)) (hs : swapsWith e (some (.Name x pos')) pos.line X.env = pure false := by rfl)
    (hf : X.fn x = true ∨ X.env.scope.names.lookup x = some .local := by first | exact .inl rfl | exact .inr rfl | assumption) : PS X (.Assign [.Name x pos'] e pos) (tS X.K gd Ex (sSet i me)) := by
  refine PS.imp (ps_set hN hi hx he hs hf) fun D σ H h => ?_
  obtain ⟨w0, w1, w, h, aσ, fr, st, wk, wg, rfl, r, sl, o⟩ := h
  exact tS_E fr st wk wg r sl o fun d h1 w' v f1 s1 k1 g1 r1 sl1 rv o1 => o1 w' _ f1 s1 r1 (sl1.set rv)
theorem S_par {i j : Nat} {x y : Str} {px py pt pt2 : Pos} {kt k2} (hc : X.calm = true) (hN : X.N.Nodup) (hi : X.N[i]? = some x) (hj : X.N[j]? = some y) (hij : i ≠ j)
    (hx : X.env.scope.names.lookup x = some .local) (hy : X.env.scope.names.lookup y = some .local) (ha : PE X a (tE X.K gd Ex ma)) (hb : PE X b (tE X.K gd Ex mb))
    (hw : swappedStores [.Tuple [.Name x px, .Name y py] kt pt] (.Tuple [a, b] k2 pt2) X.env = pure (some [x, y]))
    (hse : starEach [a, b] X.env = (false, eval a X.env) :: starEach [b] X.env := by rfl) (hse2 : starEach [b] X.env = (false, eval b X.env) :: starEach [] X.env := by rfl)
    (hs : swapsWithSole [.Tuple [.Name x px, .Name y py] kt pt] (.Tuple [a, b] k2 pt2) pos.line X.env = pure false := by rfl) :
    PS X (.Assign [.Tuple [.Name x px, .Name y py] kt pt] (.Tuple [a, b] k2 pt2) pos) (tS X.K gd Ex (sPar i j ma mb)) := by
  refine PS.imp (ps_par hc hN hi hj hij hx hy (A_cons ha (A_cons hb A_nil hse2) hse) hw hs) fun D σ H h => ?_
  obtain ⟨w0, w1, w, h, aσ, fr, st, wk, wg, rfl, r, sl, o⟩ := h
  refine tS_A fr st wk wg r sl o fun ds h1 w' v f1 s1 k1 g1 r1 sl1 rv o1 => ?_
  match ds, rv, o1 with
  | [p, q], rv, o1 =>
    rw [Reps] at rv
    obtain ⟨u, r, rfl, r1', rr⟩ := rv
    rw [Reps] at rr
    obtain ⟨u2, r', rfl, r2', rr⟩ := rr
    rw [Reps] at rr
    subst rr
    exact ⟨u, u2, rfl, o1 w' _ f1 s1 r1 ((sl1.set r1').set r2')⟩
  | [], _, o1 => exact o1.elim
  | [_], _, o1 => exact o1.elim
  | _ :: _ :: _ :: _, _, o1 => exact o1.elim
/-- any target -/
theorem S_asg (hok : GOk mg vs) (he : PE X e (tE X.K gd Ex me)) (hg : PG X tg (tG X.K gd mg vs)) (hs : swapsWithSole [tg] e pos.line X.env = pure false := by rfl) (hw : swappedStores [tg] e X.env = pure none := by rfl)
    (h1 : (assignEach [tg] X.env).map (·.2) = [assign tg X.env] := by rfl) : PS X (.Assign [tg] e pos) (tS X.K gd Ex (sAsg me mg)) := by
  refine PS.imp (ps_asg he hg hs hw h1) fun D σ H h => ?_
  obtain ⟨w0, w1, w, h, aσ, fr, st, wk, wg, rfl, r, sl, o⟩ := h
  refine tS_E fr st wk wg r sl o fun d h1 w' v f1 s1 k1 g1 r1 sl1 rv o1 => ?_
  cases eg : mg d aσ with
  | none => rw [eg] at o1; exact o1.elim
  | some a1 =>
    rw [eg] at o1
    exact ⟨w', h1, aσ, d, a1, k1, g1, rfl, r1, sl1.sl, rv, eg, fun σ' s' l' ag => o1 w' σ' f1 s1 r1 (sl1.goes hok eg s' ag)⟩
theorem S_if (hc : PT X c (tT X.K gd Ex mt)) (ha : PSs X sa (tS X.K gd Ex ms)) (hb : PSs X sb (tS X.K gd Ex mu)) : PS X (.If c sa sb pos) (tS X.K gd Ex (sIf mt ms mu)) := by
  refine PS.imp (ps_if hc ha hb) fun D σ H h => ?_
  obtain ⟨w0, w1, w, h, aσ, fr, st, wk, wg, rfl, r, sl, o⟩ := h
  refine tS_T fr st wk wg r sl o fun b h1 w' f1 s1 k1 g1 r1 sl1 o1 => ?_
  cases b with
  | true =>
    rw [if_pos rfl] at o1 ⊢
    exact ⟨w0, w1, w', h1, aσ, f1, s1, k1, g1, rfl, r1, sl1, o1⟩
  | false =>
    rw [if_neg Bool.false_ne_true] at o1 ⊢
    exact ⟨w0, w1, w', h1, aσ, f1, s1, k1, g1, rfl, r1, sl1, o1⟩
theorem S_for (hp : PassesOwn (model X.prog X.w) X.A X.env X.xe) (hc : X.calm = true) (hok : GOk mg vs) (hi : PI X tg iter (tI X.K gd Ex mi)) (hg : PG X tg (tG X.K gd mg vs)) (hb : PSs X sa (tS X.K gd Ex ms))
    (hs : ∀ x, foldedSetIterable iter X.env x = pure x := by intro _; rfl) : PS X (.For tg iter sa [] pos) (tS X.K gd Ex (sFor mi mg ms)) := by
  refine PS.imp (ps_for hp hc hi hg hb hs) fun D σ H h => ?_
  obtain ⟨w0, w1, w, h, aσ, fr, st, wk, wg, rfl, r, sl, o⟩ := h
  refine tS_I fr st wk wg r sl o fun ds h1 wL f1 s1 k1 g1 r1 sl1 o1 J wd => ?_
  have o1 := o1.step s1
  refine ⟨fun i m σ H => m = ds.length - i ∧ i ≤ ds.length ∧ ∃ w' h' aσ, w'.H = H ∧ Fr w0 w' ∧ Step wL w' ∧ RelH w' h' ∧ SlS w0 w' σ aσ ∧ OutS w0 wL Ex D (forGo mg ms (ds.drop i) aσ h'),
    ⟨_, rfl, Nat.zero_le _, wL, h1, aσ, rfl, f1, Step.refl _, r1, sl1, o1⟩, fun i m σ H hW => ?_⟩
  obtain ⟨rfl, hi, w', h', aσ', rfl, f', s', r', sl', o'⟩ := hW
  by_cases hlt : i < ds.length
  · refine .inr ⟨wd.go i w' s' hlt, fun σ H' => ∃ w' h' aσ, w'.H = H' ∧ Fr w0 w' ∧ Step wL w' ∧ RelH w' h' ∧ SlS w0 w' σ aσ ∧ OutS w0 wL Ex D (forGo mg ms (ds.drop (i + 1)) aσ h'), fun σ H' z => ⟨_, by omega, rfl, hlt, z⟩, fun x H' hy => ?_⟩
    have ed : ds.drop i = ds[i] :: ds.drop (i + 1) := List.drop_eq_getElem_cons hlt
    rw [ed] at o'
    obtain ⟨w3, d, x3, rfl, r3, e3, rd⟩ := wd.yld i w' h' x H' s' r' hlt hy
    rw [List.getElem?_eq_getElem hlt] at e3
    cases e3
    have o' : OutS w0 wL Ex D (match mg ds[i] aσ' with
      | none => .no
      | some σ1 => match ms σ1 h' with
        | .nx σ2 h2 => forGo mg ms (ds.drop (i + 1)) σ2 h2
        | .ct σ2 h2 => forGo mg ms (ds.drop (i + 1)) σ2 h2
        | .bk σ2 h2 => .nx σ2 h2
        | r => r) := o'
    have f3 := f'.xs x3
    have s3 := s'.trans x3.step
    have k3 := f3.k.trans (f1.k.symm.trans k1)
    have g3 := f3.g.trans (f1.g.symm.trans g1)
    have sl3 := sl'.xs x3 r'
    cases eg : mg ds[i] aσ' with
    | none => rw [eg] at o'; exact o'.elim
    | some a1 =>
      rw [eg] at o'
      refine ⟨w3, h', aσ', ds[i], a1, k3, g3, rfl, r3, sl3.sl, rd, eg, fun σ2 s2 l2 ag => ⟨w0, wL, w3, h', a1, f3, s3, k3, g3, rfl, r3, sl3.goes hok eg s2 ag, ?_⟩⟩
      cases em : ms a1 h' with
      | nx a2 h2 =>
        have o' : OutS w0 wL Ex D (match ms a1 h' with
          | .nx σ2 h2 => forGo mg ms (ds.drop (i + 1)) σ2 h2
          | .ct σ2 h2 => forGo mg ms (ds.drop (i + 1)) σ2 h2
          | .bk σ2 h2 => .nx σ2 h2
          | r => r) := o'
        rw [em] at o'
        exact fun w4 σ4 f4 s4 r4 sl4 => ⟨w4, h2, a2, rfl, f4, s4, r4, sl4, o'⟩
      | ct a2 h2 =>
        have o' : OutS w0 wL Ex D (match ms a1 h' with
          | .nx σ2 h2 => forGo mg ms (ds.drop (i + 1)) σ2 h2
          | .ct σ2 h2 => forGo mg ms (ds.drop (i + 1)) σ2 h2
          | .bk σ2 h2 => .nx σ2 h2
          | r => r) := o'
        rw [em] at o'
        exact fun w4 σ4 f4 s4 r4 sl4 => ⟨w4, h2, a2, rfl, f4, s4, r4, sl4, o'⟩
      | bk a2 h2 =>
        have o' : OutS w0 wL Ex D (match ms a1 h' with
          | .nx σ2 h2 => forGo mg ms (ds.drop (i + 1)) σ2 h2
          | .ct σ2 h2 => forGo mg ms (ds.drop (i + 1)) σ2 h2
          | .bk σ2 h2 => .nx σ2 h2
          | r => r) := o'
        rw [em] at o'
        exact fun w4 σ4 f4 s4 r4 sl4 => o' w4 σ4 f4 s4 r4 sl4
      | rt d2 h2 =>
        have o' : OutS w0 wL Ex D (match ms a1 h' with
          | .nx σ2 h2 => forGo mg ms (ds.drop (i + 1)) σ2 h2
          | .ct σ2 h2 => forGo mg ms (ds.drop (i + 1)) σ2 h2
          | .bk σ2 h2 => .nx σ2 h2
          | r => r) := o'
        rw [em] at o'
        exact o'
      | er c2 v2 h2 =>
        have o' : OutS w0 wL Ex D (match ms a1 h' with
          | .nx σ2 h2 => forGo mg ms (ds.drop (i + 1)) σ2 h2
          | .ct σ2 h2 => forGo mg ms (ds.drop (i + 1)) σ2 h2
          | .bk σ2 h2 => .nx σ2 h2
          | r => r) := o'
        rw [em] at o'
        exact o'
      | no =>
        have o' : OutS w0 wL Ex D (match ms a1 h' with
          | .nx σ2 h2 => forGo mg ms (ds.drop (i + 1)) σ2 h2
          | .ct σ2 h2 => forGo mg ms (ds.drop (i + 1)) σ2 h2
          | .bk σ2 h2 => .nx σ2 h2
          | r => r) := o'
        rw [em] at o'
        exact o'
  · have e : i = ds.length := Nat.le_antisymm hi (Nat.le_of_not_lt hlt)
    subst e
    rw [List.drop_length] at o'
    exact .inl ⟨wd.stop w' s', o' w' σ f' s' r' sl'⟩
end
end Cf
set_option Elab.async false
set_option linter.all false
set_option maxRecDepth 100000
set_option maxHeartbeats 2000000
/-! CfJ: items of lists in the heap set; comprehensions stored; defs by mirrors; calls. -/
namespace Cf
open PySem PySem.Spec PyProof.Rows L2

section
variable {X : Cx} {gd : Gd} {Ex : XK} {e o i tg iter elt : Expr} {me mo mj : E} {mt : T} {mi : I} {mg : G} {pos spos : Pos} {ifs : List Expr} {scope : Scope} {own : List (Str × Nat)} {vs' : List Nat}
theorem S_setLc {i : Nat} {y : Str} {py : Pos} (hc : X.calm = true) (hN : X.N.Nodup) (hy : X.N[i]? = some y) (hyl : X.env.scope.names.lookup y = some .local)
    (hsw : swapsWith (.ListComp elt [⟨tg, iter, ifs, 0⟩] scope pos) (some (.Name y py)) spos.line X.env = pure true) (hi : PI X tg iter (tI X.K gd Ex mi)) (ok : BlkOk X.N X.env.scope scope own) (hv : ∀ i ∈ vs', i ∈ own.map (·.2))
    (hg : ∀ (s : Shared) (H : Hp) (C : Addr) (cl : List (Str × Addr)) (fp : List Addr), PG (X.blk s H scope (compEnvC scope cl C X.env) fp) tg (tG X.K gd mg vs'))
    (ht : ∀ (s : Shared) (H : Hp) (C : Addr) (cl : List (Str × Addr)) (fp : List Addr), PTs (X.blk s H scope (compEnvC scope cl C X.env) fp) ifs (tT X.K gd E0 mt))
    (he : ∀ (s : Shared) (H : Hp) (C : Addr) (cl : List (Str × Addr)) (fp : List Addr), PE (X.blk s H scope (compEnvC scope cl C X.env) fp) elt (tE X.K gd E0 me))
    (hs : ∀ x, foldedSetIterable iter X.env x = pure x := by intro _; rfl) :
    PS X (.Assign [.Name y py] (.ListComp elt [⟨tg, iter, ifs, 0⟩] scope pos) spos) (tS X.K gd Ex (sSet i (eComp mi mg mt me (own.map (·.2))))) := by
  refine PS.imp (ps_setLc hc hN hy hyl hsw hi ok hg ht he hs) fun D σ H h => ?_
  obtain ⟨w0, w1, w, h, aσ, fr, st, wk, wg, rfl, r, sl, o⟩ := h
  exact comp_frz hv (tS_E fr st wk wg r sl o fun d h1 w' v f1 s1 k1 g1 r1 sl1 rv o1 => o1 w' _ f1 s1 r1 (sl1.set rv))
theorem step_ref {w : Wd} {B : Addr} {o : HO} (n : B ∈ w.ρ) : XS w (w.put B o) :=
  ⟨rfl, rfl, rfl, List.prefix_refl _, fun b u e m _ => ⟨by
    show upd w.H B o b = _
    rw [upd_ne (fun z => by rw [z] at m; exact m n)]; exact e, m⟩⟩
theorem setAt_none {α : Type} {l : List α} {i j : Nat} {x : α} (h : i ≠ j) : (l.set i x)[j]? = l[j]? := List.getElem?_set_ne h
theorem nd_ix {l : List Addr} (h : l.Nodup) {i j : Nat} {a : Addr} (e1 : l[i]? = some a) (e2 : l[j]? = some a) : i = j := by
  obtain ⟨h1, q1⟩ := List.getElem?_eq_some_iff.mp e1
  obtain ⟨h2, q2⟩ := List.getElem?_eq_some_iff.mp e2
  rcases Nat.lt_trichotomy i j with z | z | z
  · exact absurd (q1.trans q2.symm) (List.pairwise_iff_getElem.mp h i j h1 h2 z)
  · exact z
  · exact absurd (q2.trans q1.symm) (List.pairwise_iff_getElem.mp h j i h2 h1 z)
theorem rep_refI {w : Wd} {n : Nat} {v : V} : Rep w (.ref n) v ↔ ∃ a, w.ρ[n]? = some a ∧ v = .ref a := by rw [Rep]
theorem RelH.setRef {w : Wd} {h : List O} (r : RelH w h) {n : Nat} {B : Addr} {xs xs' : List V} {ds : List D} (hB : w.ρ[n]? = some B) (e0 : w.H B = some (.lst xs)) (rs : Reps w ds xs') (hn : n < h.length) : RelH (w.put B (.lst xs')) (h.set n (.lst ds)) := by
  have hm : B ∈ w.ρ := List.mem_of_getElem? hB
  have st := step_ref (o := .lst xs') hm
  refine ⟨by rw [List.length_set]; exact r.len, r.nd, fun i u a e1 e2 => ?_, fun b hb => ?_, tabs_wr r.tT e0⟩
  · by_cases hi : n = i
    · subst hi
      have e2 : w.ρ[n]? = some a := e2
      rw [hB] at e2; cases e2
      rw [List.getElem?_set_self hn] at e1
      cases e1
      exact ⟨xs', upd_same, Reps.step st.step _ _ rs⟩
    · rw [setAt_none hi] at e1
      have e2 : w.ρ[i]? = some a := e2
      have hne : a ≠ B := fun z => by
        rw [z] at e2
        exact hi (nd_ix r.nd hB e2)
      have q := r.obj i u a e1 e2
      cases u with
      | lst ds => obtain ⟨ys, e, q⟩ := q; exact ⟨ys, by show upd w.H B _ a = _; rw [upd_ne hne]; exact e, Reps.step st.step _ _ q⟩
      | ins c ns vs => obtain ⟨C, dx, fs, g, e, en, q⟩ := q; exact ⟨C, dx, fs, g, by show upd w.H B _ a = _; rw [upd_ne hne]; exact e, en, Reps.step st.step _ _ q⟩
  · obtain ⟨⟨u, e, t1⟩, hb2⟩ := r.own b hb
    refine ⟨⟨u, ?_, t1⟩, hb2⟩
    show upd w.H B _ b = _
    rw [upd_ne (fun z => hb2 (by rw [z]; exact hm))]; exact e
theorem ixOf_ixN {n : Nat} {k : Int} {j : Nat} (h : Cf.ixOf n k = some j) : ixN n k = some j := by
  unfold Cf.ixOf at h
  unfold ixN
  by_cases c : 0 ≤ k
  · rw [if_pos c] at h ⊢
    by_cases c2 : k < (n : Int)
    · rw [if_pos c2] at h ⊢; exact h
    · rw [if_neg c2] at h; cases h
  · rw [if_neg c] at h ⊢
    by_cases c2 : -(n : Int) ≤ k
    · rw [if_pos c2] at h ⊢; exact h
    · rw [if_neg c2] at h; cases h
theorem setRef_some {n : Nat} {k : Int} {d : D} {h h4 : List O} (e : Cf.setRef (.ref n) (.int k) d h = some h4) : ∃ ds j, h[n]? = some (.lst ds) ∧ Cf.ixOf ds.length k = some j ∧ h4 = h.set n (.lst (ds.set j d)) := by
  have e : (match h[n]? with
    | some (.lst xs) => (Cf.ixOf xs.length k).map fun j => h.set n (.lst (xs.set j d))
    | _ => none) = some h4 := e
  cases eh : h[n]? with
  | none => rw [eh] at e; cases e
  | some ob =>
    rw [eh] at e
    cases ob with
    | ins _ _ _ => cases e
    | lst ds =>
      obtain ⟨j, e1, e2⟩ := Option.map_eq_some_iff.mp e
      exact ⟨ds, j, rfl, e1, e2.symm⟩
/-- o[i] = e, o a list in the heap -/
theorem S_setItem (ho : PE X o (tE X.K gd Ex mo)) (hj : PE X i (tE X.K gd Ex mj)) (he : PE X e (tE X.K gd Ex me))
    (ha : ∀ v, assign (.Subscript o i spos) X.env v = (do
      let ov ← holding [v] (eval o X.env)
      let iv ← holding [v, ov] (eval i X.env)
      standAt spos
      holding [v, ov, iv] (setItem ov iv v)
      release [v, ov, iv] []) := by intro _; rfl)
    (hs : swapsWithSole [.Subscript o i spos] e pos.line X.env = pure false := by rfl) (hw : swappedStores [.Subscript o i spos] e X.env = pure none := by rfl)
    (h1 : (assignEach [.Subscript o i spos] X.env).map (·.2) = [assign (.Subscript o i spos) X.env] := by rfl) : PS X (.Assign [.Subscript o i spos] e pos) (tS X.K gd Ex (sSetItem mo mj me)) := by
  refine PS.imp (ps_asg he (pg_sub ho hj set_list ha) hs hw h1) fun D σ H h => ?_
  obtain ⟨w0, w1, w, h, aσ, fr, st, wk, wg, rfl, r, sl, oo⟩ := h
  refine tS_E fr st wk wg r sl oo fun d h1 w2 v f1 s1 k1 g1 r1 sl1 rv o1 => ?_
  have rv1 := rv
  refine ⟨w2, h1, aσ, k1, g1, rfl, r1, sl1.sl, ?_⟩
  refine Out.mono (outS_out (h0 := h1) f1 s1 o1) fun od h2 w3 ⟨f2, s2, x2, r2, o2⟩ ov rov => ?_
  have sl2 := sl1.xs x2 r1
  refine ⟨w3, h2, aσ, x2.k.trans k1, x2.g.trans g1, rfl, r2, sl2.sl, ?_⟩
  refine Out.mono (outS_out (h0 := h2) f2 s2 o2) fun jd h3 w4 ⟨f3, s3, x3, r3, o3⟩ jv rjv => ?_
  have sl3 := sl2.xs x3 r2
  cases od with
  | ref n =>
    cases jd with
    | int k =>
      have rov := Rep.step x3.step _ _ rov
      rw [rep_refI] at rov
      rw [rep_int] at rjv
      obtain ⟨B, hB, rfl⟩ := rov
      subst rjv
      cases es : setRef (.ref n) (.int k) d h3 with
      | none => simp only [es] at o3; exact o3.elim
      | some h4 =>
        simp only [es] at o3
        obtain ⟨ds, j, eh, ej, rfl⟩ := setRef_some es
        obtain ⟨xs, e4, rs⟩ := r3.obj n _ B eh hB
        refine ⟨B, xs, k, j, rfl, rfl, e4, by rw [rs.length]; exact ixOf_ixN ej, ?_⟩
        have hn : n < h3.length := (List.getElem?_eq_some_iff.mp eh).1
        have rs' := Reps.set (Rep.step (x2.trans x3).step _ _ rv1) j rs
        have st4 := step_ref (o := .lst (xs.set j v)) (List.mem_of_getElem? hB)
        exact o3 (w4.put B (.lst (xs.set j v))) σ (f3.xs st4) (s3.trans st4.step) (r3.setRef hB e4 rs' hn) (sl3.xs st4 r3)
    | _ => exact o3.elim
  | _ => cases jd <;> exact o3.elim
end

/-! ### a def by its mirror -/
def spM (K : PySem.W.Frag) (gd : Gd) (m : List D → M D) : L2.Sp := fun vs H Q E => rN K gd E m vs H Q
/-- a def of the text, its code object's address told -/
structure Dn (K : PySem.W.Frag) (x qual : Str) (st : Stmt) (f : Addr) (fd : FuncData) (cv : Value) : Prop where
  ex : ∃ (oc : Value) (od : Option Addr) (kV doc pm : Value) (an : Option Addr) (ct : Value) (osl : Array (Option Value)),
    fd = PySem.W.fnOf x qual (defArgs st) (defBody st) (defScope st) .none kV doc pm an cv ct ∧ K.lookup f = some ⟨oc, od, .func fd, osl⟩ ∧ PySem.W.codeIn K cv qual = true
  kp : PySem.W.keepIn K (.ref f) = true
theorem Dn.fn {K : PySem.W.Frag} {x qual : Str} {st : Stmt} {f : Addr} {fd : FuncData} {cv : Value} (d : Dn K x qual st f fd cv) : Fun K x qual st f fd := by
  obtain ⟨oc, od, kV, doc, pm, an, ct, osl, e, l, c⟩ := d.ex
  exact ⟨⟨oc, od, kV, doc, pm, an, cv, ct, osl, e, l, c⟩, d.kp⟩
theorem dn_mk {K : PySem.W.Frag} {x qual : Str} {st : Stmt} {f : Addr} {oc : Value} {od an : Option Addr} {osl : Array (Option Value)} {kV doc pm cdv ct : Value} (l : K.lookup f = some ⟨oc, od, .func (PySem.W.fnOf x qual (defArgs st) (defBody st) (defScope st) .none kV doc pm an cdv ct), osl⟩)
    (c : PySem.W.codeIn K cdv qual = true) (k : PySem.W.keepIn K (.ref f) = true) : Dn K x qual st f (PySem.W.fnOf x qual (defArgs st) (defBody st) (defScope st) .none kV doc pm an cdv ct) cdv := ⟨⟨oc, od, kV, doc, pm, an, ct, osl, rfl, l, c⟩, k⟩
theorem slS_start {w : Wd} {h : List O} (r : RelH w h) {N : List Str} {ds : List D} {vs : List V} (rs : Reps w ds vs) {k n : Nat} (hk : ds.length = k) (hn : N.length = n) (hkn : k ≤ n) : SlS w w (L2.start N vs) (ds.map Sl.val ++ List.replicate (n - k) Sl.no) := by
  have hl := rs.length
  refine ⟨?_, fun i d e => ?_, fun _ => [], fun i d e => ?_, fun _ _ _ _ z => (nomatch z), fun _ => ⟨List.nodup_nil, fun _ z => (nomatch z)⟩⟩
  · unfold L2.start
    simp only [List.length_append, List.length_map, List.length_replicate]
    omega
  · by_cases hi : i < ds.length
    · rw [List.getElem?_append_left (by rw [List.length_map]; exact hi), List.getElem?_map] at e
      obtain ⟨v, e1, e2⟩ := rs.get (List.getElem?_eq_getElem hi)
      rw [List.getElem?_eq_getElem hi] at e
      cases e
      refine ⟨v, ?_, e2⟩
      unfold L2.start
      rw [List.getElem?_append_left (by rw [List.length_map, hl]; exact hi), List.getElem?_map, e1]
      rfl
    · rw [List.getElem?_append_right (by rw [List.length_map]; exact Nat.le_of_not_lt hi)] at e
      obtain ⟨_, q⟩ := List.getElem?_eq_some_iff.mp e
      rw [List.getElem_replicate] at q
      cases q
  · by_cases hi : i < ds.length
    · rw [List.getElem?_append_left (by rw [List.length_map]; exact hi), List.getElem?_map, List.getElem?_eq_getElem hi] at e
      cases e
    · rw [List.getElem?_append_right (by rw [List.length_map]; exact Nat.le_of_not_lt hi)] at e
      obtain ⟨_, q⟩ := List.getElem?_eq_some_iff.mp e
      rw [List.getElem_replicate] at q
      cases q
section
variable {P : Program} {w : World} {K : PySem.W.Frag} {mg : Str → Option Value} {base : Heap} {gd : Gd} {x qual : Str} {st : Stmt} {f : Addr} {fd : FuncData} {cv : Value} {N ps : List Str} {k n kp : Nat} {b : Ms}
theorem run_len {ds : List D} {h : List O} {wd : Wd} {E : XK} {P' : D → List O → Wd → Prop} (o : Out wd E (run n kp b ds h) P') : ds.length = kp := by
  by_cases hl : ds.length = kp
  · exact hl
  · unfold run at o
    rw [if_neg hl] at o
    exact o.elim
theorem def_ok (F : Dn K x qual st f fd cv) (S : FnScope N ps (defScope st)) (hn : N.length = n) (hp : ps.length = kp) (hkn : kp ≤ n)
    (hbody : ∀ (A : Around) (outer : List Env) (s : Shared) (H : Hp) (E : XK), Room k (A.deeper (envOfC qual (defScope st) s.heap.objs.size f cv)) → PSs (cxOf (L2.CX P w) P w K mg base N qual (defScope st) f cv A outer s H E) (defBody st) (tS K gd E b)) :
    FnOk P w K mg base (L2.CX P w) (k + 1) f fd ps (spM K gd (run n kp b)) := by
  obtain ⟨oc, od, kV, doc, pm, an, ct, osl, rfl, lk, hcd⟩ := F.ex
  refine fn_of lk hcd S (fun vs H Q E h => ?_) fun A outer s H vs Q E hr hsp => ?_
  · obtain ⟨wd, h, ds, wk, wg, rfl, r, rs, o⟩ := h
    rw [rs.length, run_len o, hp]
  · obtain ⟨wd, h, ds, wk, wg, rfl, r, rs, o⟩ := hsp
    refine ⟨_, hbody A outer s wd.H E hr, wd, wd, wd, h, _, Fr.refl _, Step.refl _, wk, wg, rfl, r, slS_start r rs (run_len o) hn hkn, ?_⟩
    have hl := run_len o
    unfold run at o
    rw [if_pos hl] at o
    generalize ds.map Sl.val ++ List.replicate (n - kp) Sl.no = a0 at o ⊢
    have o : Out wd E (match b a0 h with
      | .nx _ h' => R.ok D.non h'
      | .rt d h' => R.ok d h'
      | .er c vs h' => R.er c vs h'
      | _ => R.no) (fun d _ w' => ∀ v, Rep w' d v → Q v w'.H) := o
    cases e : b a0 h with
    | nx a1 h1 =>
      rw [e] at o
      intro w' σ' f' s' r' sl'
      obtain ⟨x1, r2, st2⟩ := f'.back r'
      exact o (w'.back wd) x1 r2 .non (by rw [Rep])
    | rt d h1 => rw [e] at o; exact fun w' v x' r' rv => o w' x' r' v rv
    | er c vs h1 => rw [e] at o; exact o
    | bk a1 h1 => rw [e] at o; exact o.elim
    | ct a1 h1 => rw [e] at o; exact o.elim
    | no => rw [e] at o; exact o.elim
end
/-- no fuel: nothing is promised -/
theorem fn_no {P : Program} {w : World} {K : PySem.W.Frag} {mg : Str → Option Value} {base : Heap} {gd : Gd} {CX : CXT} {k : Nat} {f : Addr} {fd : FuncData} {ps : List Str} : FnOk P w K mg base CX k f fd ps (spM K gd (fun _ => no)) := by
  have no : ∀ vs H Q E, ¬ spM K gd (fun _ => no) vs H Q E := fun vs H Q E h => by
    obtain ⟨wd, h, ds, wk, wg, e, r, rs, o⟩ := h
    exact o
  exact ⟨fun vs H Q E h => absurd h (no vs H Q E), fun A outer s H args us vs Q E _ _ _ _ h => absurd h (no vs H Q E)⟩
section
variable {X : Cx} {gd : Gd} {Ex : XK} {e : Expr} {es : List Expr} {mes : List E} {m : List D → M D} {k : Nat} {f : Addr} {fd : FuncData} {ps : List Str} {x : Str} {p pos : Pos}
theorem R_call (F : FnOk X.prog X.w X.K X.mg X.base (L2.CX X.prog X.w) k f fd ps (spM X.K gd m)) (hr : Room k X.A) (hg : Gl X x) (hm : X.mg x = some (.ref f)) (hk : PySem.W.keepIn X.K (.ref f) = true) (hb : Binds X.K fd ps []) (hx : Passes (L2.CX X.prog X.w) X Ex)
    (ha : PA X (e :: es) (tA X.K gd Ex mes)) (hdb : (x == ("__debug__" : Str)) = false := by decide) (he : starEach (e :: es) X.env = (false, eval e X.env) :: starEach es X.env := by rfl) (hpl : (backTo pos (starEach es X.env)).any (·.1) = false := by rfl) :
    PE X (.Call (.Name x p) (e :: es) [] pos) (tE X.K gd Ex (eN m mes)) := by
  refine PE.imp (pe_call F hr hg hm hk hb .nil hx ha hdb he hpl) fun σ H Q h => ?_
  obtain ⟨w, h, aσ, wk, wg, rfl, r, s, o⟩ := h
  refine tA_bind wk wg r s o fun ds h1 w1 vs s1 k1 g1 r1 sl1 rs o1 => ?_
  show spM X.K gd m (vs ++ []) w1.H Q Ex
  rw [List.append_nil]
  exact ⟨w1, h1, ds, k1, g1, rfl, r1, rs, o1⟩
end
end Cf
set_option Elab.async false
set_option linter.all false
set_option maxRecDepth 100000
set_option maxHeartbeats 2000000
/-! CfX: exceptions whose __init__ says super().__init__(..). -/
namespace Cf
open PySem PySem.Spec PyProof.Rows L2

section
open PySem.W
variable {prog : Program} {w : World} {A : Around} {E : Value → Shared → Prop} {h : Heap} {g : Array GenState} {d : Drawn} {t : Nat} {os : OsState}
variable {nm q : Str} {C N : Addr} {bs bm bmB : List Value} {hdct : Bool} {sn : List Str} {sub : List Value} {ab : Bool} {col : Option Bool} {dd : Option Addr} {k0 k1 k2 k3 k5 : Option Value} {B newId i : String}
theorem call_mw (FB : ExcBaseFacts B newId i bmB) {u e t0 : Addr} {rest : List Value} {Q : Value → Shared → Prop}
    (hC : h.get? C = some (excClassObj nm q C N bs bm hdct sn sub ab col dd k0 k1 k2 k3 k5 newId)) (he : h.get? e = some ({ cls := .ref C, dict := none, data := .fields #[.ref t0, .none, .none, .none, .bool false, .none] } : Obj)) (hu : h.get? u = some (kxs_mw i e)) (hz : rest.length ≤ sizeLine)
    (hq : ∀ h' t1, (∀ b o, b ≠ e → h.get? b = some o → h'.get? b = some o) → h'.get? e = some ({ cls := .ref C, dict := none, data := .fields #[.ref t1, .none, .none, .none, .bool false, .none] } : Obj) → Q .none ⟨h', g, d, t, os⟩) :
    wpAny (model prog w) A (call (.ref u) rest) Q E ⟨h, g, d, t, os⟩ := by
  refine wpAny_call (codeAny_of_tree ?_)
  show wpAny _ A.in1 (callAny (.ref u) ⟨rest, []⟩) _ _ _
  simp only [callAny]
  refine wpAny_bind (wpAny_load hu ?_)
  simp only [kxs_mw, show (Value.type "method-wrapper" == Value.type "method" || Value.type "method-wrapper" == Value.type "builtin_function_or_method" || Value.type "method-wrapper" == Value.type "method-wrapper") = true by decide, if_true]
  refine KFB.if_so (by decide) ?_
  refine wpAny_bind (check_bound_init FB.toExcCallFacts hC he rfl ?_)
  refine wpAny_bind (wpAny_pure (wpAny_pure ?_))
  refine ⟨plainId_quiet FB.init.plain _, codeAny_builtin FB.initEntry ?_⟩
  exact exc_init_tree (cls := .ref C) (t0 := t0) (dv := none) (c2 := .none) (c3 := .none) (b4 := .bool false) he hz fun h' k e' _ => hq h' _ k e'
end
/-- what the written part says of the class and its __init__ -/
structure SupI (P : Program) (K : PySem.W.Frag) (C f cc cda : Addr) (name qual : Str) (st : Stmt) (fd : FuncData) : Prop where
  T : OexC K C
  fn : ∃ (oc : Value) (od : Option Addr) (osl : Array (Option Value)) (kV doc pm : Value) (an : Option Addr) (ct : Value), fd = PySem.W.ksFn name qual (defArgs st) (defBody st) (defScope st) .none kV doc pm an (.ref cda) ct cc ∧ K.lookup f = some ⟨oc, od, .func fd, osl⟩
  cd : PySem.W.codeIn K (.ref cda) qual = true
  file : ∃ (ccl : Value) (cdd : Option Addr) (vs : Array Value) (ccs : Array (Option Value)) (file : Str) (tf : Tok), K.lookup cda = some ⟨ccl, cdd, .fields vs, ccs⟩ ∧ vs[2]? = some (.str file tf) ∧ ((P.main.file : Str) == file) = true
  cell : ∃ (cl : Value) (cld : Option Addr) (csl : Array (Option Value)), K.lookup cc = some ⟨cl, cld, .cell (some (.ref C)), csl⟩
  sub : PySem.W.mroIn K C (.ref C) = some true
  sup : PySem.W.ks_superIn K C C "__init__" = some (some (.builtin "ValueError.__init__"))
  ve : PySem.W.subIn K (.ref C) (.type "ValueError") = some true
  opq : PySem.W.nsIn K cStatics "thirdparty.any" = some none
  top : (P.main.scope.names.lookup ("super" : Str)).isSome = false
structure SupS (N : List Str) (sc : Scope) : Prop where
  kind : sc.kind = .function
  co : sc.isCoroutine = false
  gen : sc.isGenerator = false
  nd : N.Nodup
  par : ∀ x ∈ N, sc.names.lookup x = some .local
  nocell : ∀ y ∈ sc.names, y.2 ≠ .cell
  free : ∀ y ∈ sc.names, y.2 = .free → y.1 = ("__class__" : Str)
  cls : sc.names.lookup ("__class__" : Str) = some .free
  sup : sc.names.lookup ("super" : Str) = some .globalImplicit
/-- the context of such an __init__ -/
def zCx (P : Program) (w : World) (K : PySem.W.Frag) (mg : Str → Option Value) (base : Heap) (N : List Str) (qual : Str) (scope : Scope) (f cda cc : Addr) (A : Around) (outer : List Env) (s : Shared) (H : Hp) : Cx where
  prog := P
  w := w
  K := K
  mg := mg
  base := base
  A := A.deeper (PySem.W.ksEnv qual scope s.heap.objs.size f (.ref cda) cc)
  N := N
  s_0 := s
  H_0 := H
  env := PySem.W.ksEnv qual scope s.heap.objs.size f (.ref cda) cc
  outer := outer
  stack := PySem.W.ksEnv qual scope s.heap.objs.size f (.ref cda) cc :: outer
  ex := []
  calm := true
  fn := fun _ => false
  pn := []
  xe := fun _ _ => False
theorem zipLook : ∀ {ps : List Str} {us : List Value} {i : Nat} {x : Str} {u : Value}, ps.Nodup → ps[i]? = some x → us[i]? = some u → (ps.zip us).lookup x = some u
  | [], _, _, _, _, _, e, _ => by simp at e
  | p :: ps, [], _, _, _, _, _, e => by simp at e
  | p :: ps, v :: us, 0, x, u, _, e1, e2 => by
    simp at e1 e2
    subst e1 e2
    simp [List.zip_cons_cons]
  | p :: ps, v :: us, i + 1, x, u, nd, e1, e2 => by
    have e1 : ps[i]? = some x := by simpa using e1
    have e2 : us[i]? = some u := by simpa using e2
    have hne : (x == p) = false := by
      have h := (List.nodup_cons.mp nd).1
      have hm := List.mem_of_getElem? e1
      simp only [beq_eq_false_iff_ne]
      intro z
      exact h (z ▸ hm)
    rw [List.zip_cons_cons, List.lookup_cons, hne]
    exact zipLook (List.nodup_cons.mp nd).2 e1 e2
theorem bindsRev {N : List Str} {us : List Value} (hl : us.length = N.length) (nd : N.Nodup) {i : Nat} {x : Str} {u : Value} (hx : N[i]? = some x) (hu : us[i]? = some u) : (N.zip us).reverse.lookup x = some u := by
  rw [lookup_reverse_of_nodup (N.zip us) (by rw [List.map_fst_zip (Nat.le_of_eq hl.symm)]; exact nd) x]
  exact zipLook nd hx hu
section
variable {P : Program} {w : World} {K : PySem.W.Frag} {mg : Str → Option Value} {base : Heap} {N : List Str} {C f cc cda : Addr} {name qual : Str} {st : Stmt} {fd : FuncData} {A : Around} {outer : List Env} {s : Shared} {H : Hp}
theorem z_start {h1 : Heap} {tk : Nat} {us : List Value} {vs : List V} (F : SupI P K C f cc cda name qual st fd) (S : SupS N (defScope st)) (hd : A.handled = none) (e0 : Env0 P w K mg base A outer s H) (rv : Vals vs us) (hl : vs.length = N.length)
    (hns : h1.Ns s.heap.objs.size fun x => (N.zip us).reverse.lookup x) (kp : ∀ b o, s.heap.get? b = some o → h1.get? b = some o) :
    Inv (zCx P w K mg base N qual (defScope st) f cda cc A outer s H) [] (vs.map some) H { s with heap := h1, toks := tk } := by
  obtain ⟨cl, cld, csl, hcell⟩ := F.cell
  have hK : ∀ b o, K.lookup b = some o → s.heap.get? b = some o ∧ H b = none := fun b o e => e0.bs b o (e0.mod.kin b o e)
  have one : ∀ {y : Str} {c : Addr}, (zCx P w K mg base N qual (defScope st) f cda cc A outer s H).env.cells.lookup y = some c → y = ("__class__" : Str) ∧ c = cc := fun {y c} e => by
    have e : ([(("__class__" : Str), cc)] : List (Str × Addr)).lookup y = some c := e
    rw [List.lookup_cons] at e
    cases hb : y == ("__class__" : Str) with
    | true => rw [hb] at e; exact ⟨by simpa using hb, (Option.some.inj e).symm⟩
    | false => rw [hb] at e; cases e
  have nex : ∀ b : Addr, b ∉ (zCx P w K mg base N qual (defScope st) f cda cc A outer s H).ex := fun b z => absurd (show b ∈ ([] : List Addr) from z) (by simp)
  refine ⟨⟨e0.mod, S.kind, rfl, rfl, Nat.le_refl _, fun y z c e1 e2 => (one e1).1.trans (one e2).1.symm, fun y hy => ?_, fun y c z _ => ?_, fun _ => hd, Around.frames_deeper e0.frames, .inr ⟨rfl, rfl⟩, fun b z => absurd z (nex b), e0.bs, e0.bsz, fun b _ _ => nex b, fun b z => absurd z (nex b), e0.funs, e0.frf⟩,
    rfl, e0.bare, Un.kept kp, ⟨_, hns, fun i y v e1 e2 e3 => ?_⟩, fun y c e => ?_, e0.hok.fresh (Nat.le_refl _), fun y c e => ?_, fun q hq => absurd (show q ∈ ([] : List (Addr × Obj)) ++ [] from hq) (by simp), e0.hok.kept kp, by rw [List.length_map]; exact hl⟩
  · have hy : (defScope st).names.lookup y = some .cell ∨ (defScope st).names.lookup y = some .free := hy
    rcases hy with hy | hy
    · exact absurd rfl (S.nocell _ (PySem.mem_of_lookup hy))
    · have e := S.free _ (PySem.mem_of_lookup hy) rfl
      have e : y = ("__class__" : Str) := e
      exact ⟨cc, by show ([(("__class__" : Str), cc)] : List (Str × Addr)).lookup y = some cc; rw [e]; simp⟩
  · have z : false = true := z
    cases z
  · rw [List.getElem?_map] at e2
    cases ev : vs[i]? with
    | none => rw [ev] at e2; cases e2
    | some v' =>
      rw [ev] at e2
      cases e2
      obtain ⟨u, hu, ru⟩ := rv.get ev
      have e1 : N[i]? = some y := e1
      exact ⟨u, ru, .inl ⟨S.par y (List.mem_of_getElem? e1), bindsRev (by rw [← rv.length]; exact hl) S.nd e1 hu⟩⟩
  · obtain ⟨rfl, rfl⟩ := one e
    exact ⟨some (.ref C), _, kp _ _ (hK _ _ hcell).1, rfl⟩
  · obtain ⟨rfl, rfl⟩ := one e
    exact (hK _ _ hcell).2
variable {X : Cx}
/-- the body: super().__init__(e), then the rest -/
def tSup (C : Addr) (te : TE) (t : TS) : TS := fun D σ H => ∃ a, σ[0]? = some (some (.ref a)) ∧ H a = some (exo a C none) ∧ te σ H fun x H1 => H1 a = some (exo a C none) ∧ t D σ H1
theorem init_ok {CX : CXT} {k : Nat} {sp : Sp} {self0 : Str} {p3 p4 p5 p6 p7 : Pos} {e : Expr} {rest : List Stmt} (F : SupI P K C f cc cda name qual st fd) (S : SupS N (defScope st)) (hb : defBody st = .Expr (.Call (.Attribute (.Call (.Name "super" p3) [] [] p4) "__init__" p5) [e] [] p6) p7 :: rest)
    (hs0 : N[0]? = some self0) (hpar : ((defArgs st).posonlyargs ++ (defArgs st).args).head?.map (·.arg) = some self0) (msup : mg "super" = none) (len : ∀ vs H Q E, sp vs H Q E → vs.length = N.length)
    (hbody : ∀ (A : Around) (outer : List Env) (s : Shared) (H : Hp) (vs : List V) (Q : VK) (E : XK), Room k (A.deeper (PySem.W.ksEnv qual (defScope st) s.heap.objs.size f (.ref cda) cc)) → sp vs H Q E →
      ∃ te t, PE (zCx P w K mg base N qual (defScope st) f cda cc A outer s H) e te ∧ PSs (zCx P w K mg base N qual (defScope st) f cda cc A outer s H) rest t ∧ tSup C te t { nx := fun _ H' => Q .non H', rt := Q } (vs.map some) H)
    (hst : ∀ env : Env, starEach [e] env = (false, eval e env) :: starEach [] env := by intro _; rfl) {pl : Sem Bool}
    (hc : ∀ (L f cc : Addr) (cd : Value), eval (.Call (.Attribute (.Call (.Name "super" p3) [] [] p4) "__init__" p5) [e] [] p6) (PySem.W.ksEnv qual (defScope st) L f cd cc) = (do
      let ov ← attributeBase (.Call (.Name "super" p3) [] [] p4) "__init__" (PySem.W.ksEnv qual (defScope st) L f cd cc) (eval (.Call (.Name "super" p3) [] [] p4) (PySem.W.ksEnv qual (defScope st) L f cd cc))
      standAt p5.atName
      let (f1, first) ← holding [ov] (getMethod ov "__init__" pl)
      callWith p6 f1 first (backTo p6 (starEach [e] (PySem.W.ksEnv qual (defScope st) L f cd cc))) []) := by intro _ _ _ _; rfl) : FnOk P w K mg base CX (k + 1) f fd N sp := by
  obtain ⟨oc, od, osl, kV, dc, pm, an, ct, rfl, lk⟩ := F.fn
  refine ⟨len, fun A outer s H args us vs Q E hr e0 hbind rv hsp => ?_⟩
  have hl := len _ _ _ _ hsp
  have KX : K.In s.heap := e0.mod.kin.keeps fun b o e => (e0.bs b o e).1
  have lim : s.heap.NoLimit := e0.mod.nolimit.keeps fun b o e => (e0.bs b o e).1
  refine ks_codeAny_call_defAt (binds := N.zip us) hr.depth (KX _ _ lk) rfl lim (PySem.W.codeRec_of KX F.cd) rfl hbind S.nocell (fun y hy => S.par _ (List.of_mem_zip (show (y.1, y.2) ∈ N.zip us from hy)).1) (fun h1 hns kp => ?_) S.co S.gen S.kind
  obtain ⟨ccl, cdd, cvs, ccs, file, tf, hcode, hfile, hfeq⟩ := F.file
  obtain ⟨cl, cld, csl, hcell⟩ := F.cell
  obtain ⟨nm, cq, cN, bs, bm, sn, sub, ab, col, dd, k0, k1, k2, k3, k5, hC, hbm⟩ := F.T.cls
  have hK1 : ∀ b o, K.lookup b = some o → h1.get? b = some o := fun b o e => kp _ _ (KX b o e)
  obtain ⟨te, t, pe, ps, a, ea, eH, hrd⟩ := hbody A outer s H vs Q E (hr.deeper _) hsp
  have I := z_start (h1 := h1) (tk := s.toks + (N.zip us).length) F S hr.hd e0 rv hl hns kp
  show _root_.PySem.wpAt (model P w) (A.deeper (PySem.W.ksEnv qual (defScope st) s.heap.objs.size f (.ref cda) cc)) (.func (defBody st) (PySem.W.ksEnv qual (defScope st) s.heap.objs.size f (.ref cda) cc)) (execs (defBody st) (PySem.W.ksEnv qual (defScope st) s.heap.objs.size f (.ref cda) cc)) _ _ _
  have hex : execs (defBody st) (PySem.W.ksEnv qual (defScope st) s.heap.objs.size f (.ref cda) cc) = execs (.Expr (.Call (.Attribute (.Call (.Name "super" p3) [] [] p4) "__init__" p5) [e] [] p6) p7 :: rest) (PySem.W.ksEnv qual (defScope st) s.heap.objs.size f (.ref cda) cc) := by rw [hb]
  rw [hex]
  have qi : interactive (PySem.W.ksEnv qual (defScope st) s.heap.objs.size f (.ref cda) cc) = false := I.quiet
  cases hh : ((defArgs st).posonlyargs ++ (defArgs st).args).head? with
  | none => rw [hh] at hpar; cases hpar
  | some ar =>
    rw [hh] at hpar
    have har : ar.arg = self0 := Option.some.inj hpar
    obtain ⟨hns1, hb1, hlook⟩ : ∃ m, h1.Ns s.heap.objs.size m ∧ m self0 = some (.ref a) := by
      have ev : vs[0]? = some (.ref a) := by
        rw [List.getElem?_map] at ea
        cases e : vs[0]? with
        | none => rw [e] at ea; cases ea
        | some v => rw [e] at ea; cases ea; rfl
      obtain ⟨u, hu, ru⟩ := rv.get ev
      cases ru
      exact ⟨_, hns, bindsRev (by rw [← rv.length]; exact hl) S.nd hs0 hu⟩
    obtain ⟨t1, hoa⟩ := exo_at I.hok eH
    have hoa : h1.get? a = some ({ cls := .ref C, dict := none, data := .fields #[.ref t1, .none, .none, .none, .bool false, .none] } : Obj) := hoa
    have KH : K.In h1 := hK1
    have selfk : (defScope st).names.lookup self0 = some .local := S.par _ (List.mem_of_getElem? hs0)
    obtain ⟨mb, hmb, hboot⟩ := e0.mod.blt
    have kb : ∀ b o, base.get? b = some o → h1.get? b = some o := fun b o e => kp _ _ (e0.bs b o e).1
    refine ks_wpAt_execs_cons (ks_wpAt_Expr_any (hi := qi) (ks_wpAt_MethodCall (ks_wpAt_super_base S.sup S.cls (by decide) rfl (hK1 _ _ lk) rfl hh rfl (hK1 _ _ hcode) rfl hfile hfeq F.top ?_) (hc _ _ _ _)))
    refine PySem.W.ks_loadName_global S.kind S.sup (Calls.loadGlobal_builtin (env := PySem.W.ksEnv qual (defScope st) s.heap.objs.size f (.ref cda) cc) (e0.mod.glob.keeps kb) msup (hmb.keeps kb) ((hboot _ (by decide)).trans (show bootBuiltins "super" = some (.type "super") by decide +kernel)) ⟨rfl, ?_⟩)
    refine wpAny_loadName_free S.kind S.cls rfl ⟨_, hK1 _ _ hcell, rfl⟩ ?_
    refine wpAny_loadName_local S.kind (by rw [har]; exact selfk) hb1 (by rw [har]; exact hlook) ?_
    refine ks_wpAny_isType_cls (hK1 _ _ hC) rfl ⟨rfl, ?_⟩
    refine ks_wpAny_call_super (hK1 _ _ hC) rfl hoa rfl (fun c z => by cases z) (PySem.W.looks_mroIn KH F.sub) fun h2 e2 k2 => ?_
    have KH2 : K.In h2 := fun b o e => k2 _ _ (hK1 b o e)
    have I2 : Inv (zCx P w K mg base N qual (defScope st) f cda cc A outer s H) [] (vs.map some) H { heap := h2, gens := s.gens, drawn := s.drawn, toks := s.toks + (N.zip us).length, os := s.os } := I.kept (t' := s.toks + (N.zip us).length) k2
    have hoa2 := k2 _ _ hoa
    have hve : PySem.W.Looks (model P w) h2 (isInstance (.ref a) (.type "ValueError")) true := (PySem.W.InstAt.type (od := none) ⟨hoa2, rfl, rfl, True.intro⟩).andThen (PySem.W.looks_subIn KH2 F.ve)
    have hne : a ≠ C := fun z => by
      rw [z] at hoa2
      have q := KH2 _ _ hC
      rw [hoa2] at q
      cases q
    obtain ⟨cd, hcd, hal⟩ : ∃ cd, PySem.W.clsIn K C = some cd ∧ PySem.W.alongIn K "__init__" ((cd.mro.dropWhile (· != .ref C)).drop 1) = some (some (.builtin "ValueError.__init__")) := by
      have q := F.sup
      unfold PySem.W.ks_superIn at q
      cases z : PySem.W.clsIn K C with
      | none => rw [z] at q; cases q
      | some cd => rw [z] at q; exact ⟨cd, rfl, q⟩
    refine PySem.W.kxs_getMethod PySem.W.kxs_ValueError (so := h1.objs.size) e2 (PySem.W.looks_opaque KH2 F.opq) (l₀ := cd.mro) (fun A Q E s k q => wpAny_bind ((PySem.W.looks_clsIn KH2 hcd) A _ E s k (wpAny_pure q))) rfl KH2 hal hve hne (by decide) ?_
    -- the wrapper stands at u
    have hu : (h2.push (PySem.W.kxs_mw "ValueError.__init__" a)).get? h2.objs.size = some (PySem.W.kxs_mw "ValueError.__init__" a) := Heap.get?_push_size _ rfl
    have I3 : Inv (zCx P w K mg base N qual (defScope st) f cda cc A outer s H) [] (vs.map some) H { heap := h2.push (PySem.W.kxs_mw "ValueError.__init__" a), gens := s.gens, drawn := s.drawn, toks := s.toks + (N.zip us).length + 1, os := s.os } := I2.kept (t' := s.toks + (N.zip us).length + 1) fun b o e => Heap.get?_push_of_some _ e
    have f3 := I2.fpOk (Nat.le_refl _) (I2.hok.fresh (Nat.le_refl _))
    have I4 : Inv (zCx P w K mg base N qual (defScope st) f cda cc A outer s H) [(h2.objs.size, PySem.W.kxs_mw "ValueError.__init__" a)] (vs.map some) H { heap := h2.push (PySem.W.kxs_mw "ValueError.__init__" a), gens := s.gens, drawn := s.drawn, toks := s.toks + (N.zip us).length + 1, os := s.os } := I3.pins_of fun p hp => by
      have e : p = (h2.objs.size, PySem.W.kxs_mw "ValueError.__init__" a) := by simpa using hp
      subst e
      exact ⟨hu, f3.1, f3.2.1, f3.2.2.1, fun v z => by cases z⟩
    show wpAny (model P w) (A.deeper (PySem.W.ksEnv qual (defScope st) s.heap.objs.size f (.ref cda) cc)) (callWith p6 (.ref h2.objs.size) [] (backTo p6 (starEach [e] (PySem.W.ksEnv qual (defScope st) s.heap.objs.size f (.ref cda) cc))) []) _ _ _
    rw [hst]
    refine PySem.W.kxs_callWith (i := "ValueError.__init__") (x := a) rfl ?_
    refine Calls.evalArgs_plain (Calls.spliced_cons ?_)
    have hpe := pe.run _ _ _ _ _ I4 hrd
    refine wpAny_mono hpe (fun v s5 hv => ?_) fun _ _ z => z.elim
    obtain ⟨xv, H5, I5, rx, e5, ht⟩ := hv
    refine Calls.spliced_nil ⟨(I5.pin (h2.objs.size, PySem.W.kxs_mw "ValueError.__init__" a) (by simp)).1, ?_⟩
    have hu5 := (I5.pin (h2.objs.size, PySem.W.kxs_mw "ValueError.__init__" a) (by simp)).1
    obtain ⟨t5, hoa5⟩ := exo_at I5.hok e5
    have KH5 : K.In s5.heap := I5.kIn
    obtain ⟨hh5, g5, d5, tk5, os5⟩ := s5
    refine call_mw _root_.PySem.F.excBase_ValueError (KH5 _ _ hC) hoa5 hu5 (by show 1 ≤ sizeLine; decide) fun h6 t6 k6 e6 => ?_
    have J := I5.write (t' := tk5) (x := a) (e := a) (o := exo a C none) (by rw [e5]; exact True.intro) (.inl rfl) k6 ⟨_, e6⟩ (exo_ok e6)
    have eu : upd H5 a (exo a C none) = H5 := by
      funext b
      by_cases hb : b = a
      · rw [hb, upd_same, e5]
      · rw [upd_ne hb]
    rw [eu] at J
    have hps := ps.run _ _ _ _ { nx := fun _ H' => Q .non H', rt := Q } J ht
    refine wpAt_of_wpAny (wpAny_mono hps (fun fl s' hs => ?_) fun _ _ z => z.elim)
    cases fl with
    | ret u =>
      obtain ⟨v, σ', H', J, rv, q⟩ := hs
      exact ⟨v, H', J.os, J.bare, J.base, J.hok, rv, q⟩
    | next =>
      obtain ⟨σ', H', J, q⟩ := hs
      exact ⟨.non, H', J.os, J.bare, J.base, J.hok, rfl, q⟩
    | brk =>
      obtain ⟨_, _, _, q⟩ := hs
      exact False.elim q
    | cont =>
      obtain ⟨_, _, _, q⟩ := hs
      exact False.elim q
end
end Cf
set_option Elab.async false
set_option linter.all false
set_option maxRecDepth 100000
set_option maxHeartbeats 2000000
/-! CfY: raise C(..). -/
namespace Cf
open PySem PySem.Spec PyProof.Rows L2

/-- __init__(self, f): one text -/
def sp1 (C : Addr) (f : Str) : L2.Sp := fun vs H Q _ => ∃ a y, vs = [.ref a, .str y] ∧ y.length ≤ 1000000 ∧ H a = some (exo a C none) ∧ ∀ dx, H dx = none → dx ≠ a → Q .non (upd (upd H dx (exd dx [(f, .str y)])) a (exo a C (some dx)))
section
variable {P : Program} {w : World} {K : PySem.W.Frag} {mg : Str → Option Value} {base : Heap} {C f cc cda : Addr} {name qual : Str} {st : Stmt} {fd : FuncData}
theorem init1 {CX : CXT} {k : Nat} {fl pre : Str} {p1 p3 p4 p5 p6 p7 p8 p9 q1 q2 q3 q4 q5 : Pos} {j2 : Nat} (F : SupI P K C f cc cda name qual st fd) (S : SupS ["self", fl] (defScope st))
    (hb : defBody st = [.Expr (.Call (.Attribute (.Call (.Name "super" p3) [] [] p4) "__init__" p5) [.JoinedStr [.Constant (.str pre) j2 p7, .FormattedValue (.Name fl p8) (-1) none p9] q1] [] p6) p1, .Assign [.Attribute (.Name "self" q2) fl q3] (.Name fl q4) q5])
    (hpar : ((defArgs st).posonlyargs ++ (defArgs st).args).head?.map (·.arg) = some "self") (msup : mg "super" = none) (hno : PySem.W.findIn K (.ref C) fl = some none) (hpre : pre.length ≤ 1000) (hdb : (fl == ("__debug__" : Str)) = false) (hdc : (fl == ("__classdict__" : Str)) = false) (hsf : fl ≠ "self")
    {pl : Sem Bool}
    (hc : ∀ (L f cc : Addr) (cd : Value), eval (.Call (.Attribute (.Call (.Name "super" p3) [] [] p4) "__init__" p5) [.JoinedStr [.Constant (.str pre) j2 p7, .FormattedValue (.Name fl p8) (-1) none p9] q1] [] p6) (PySem.W.ksEnv qual (defScope st) L f cd cc) = (do
      let ov ← attributeBase (.Call (.Name "super" p3) [] [] p4) "__init__" (PySem.W.ksEnv qual (defScope st) L f cd cc) (eval (.Call (.Name "super" p3) [] [] p4) (PySem.W.ksEnv qual (defScope st) L f cd cc))
      standAt p5.atName
      let (f1, first) ← holding [ov] (getMethod ov "__init__" pl)
      callWith p6 f1 first (backTo p6 (starEach [.JoinedStr [.Constant (.str pre) j2 p7, .FormattedValue (.Name fl p8) (-1) none p9] q1] (PySem.W.ksEnv qual (defScope st) L f cd cc))) [])) : FnOk P w K mg base CX (k + 1) f fd ["self", fl] (sp1 C fl) := by
  refine init_ok F S hb rfl hpar msup (fun vs H Q E h => ?_) (fun A outer s H vs Q E hr h => ?_) (fun _ => rfl) hc
  · obtain ⟨a, y, rfl, _⟩ := h
    rfl
  · obtain ⟨a, y, rfl, hy, ha, q⟩ := h
    have l0 : (defScope st).names.lookup ("self" : Str) = some .local := S.par _ (by simp)
    have l1 : (defScope st).names.lookup fl = some .local := S.par _ (by simp)
    refine ⟨_, _, pe_joined (.cons pe_str (.cons (pe_fmt (pe_var (i := 1) rfl (.inl l1) hdb hdc)) .nil)), pss_one (ps_ost (pe_var (i := 0) rfl (.inl l0) (by decide) (by decide)) (pe_var (i := 1) rfl (.inl l1) hdb hdc)), a, rfl, ha, ?_⟩
    have hsz : ("" : Str).length = 0 := by decide
    have ha2 : ∀ x y : Str, (x ++ y).length = x.length + y.length := fun x y => by
      show (x.cps ++ y.cps).size = x.cps.size + y.cps.size
      exact Array.size_append ..
    have he0 : Str.empty.length = 0 := rfl
    refine ⟨pre, rfl, ?_, .str y, rfl, .inl ⟨y, rfl, Nat.le_trans hy (by decide), y, rfl, ?_, ha, ?_⟩⟩
    · rw [ha2, he0, Nat.zero_add]
      exact Nat.le_trans hpre (by decide)
    · rw [ha2, ha2, he0, Nat.zero_add]
      exact Nat.le_trans (Nat.add_le_add hpre hy) (by decide)
    · exact ⟨_, rfl, _, rfl, a, C, rfl, F.T, hno, .inl ⟨ha, fun dx h0 hne => q dx h0 hne⟩⟩
end
theorem upd_del {H1 : Hp} {a d : Addr} {o o1 o2 o3 : HO} (hn : H1 a = none) (hd : d ≠ a) : upd (del (upd (upd (upd H1 a o) d o1) a o2) a) d o3 = upd H1 d o3 := by
  funext b
  by_cases hb : b = d
  · rw [hb, upd_same, upd_same]
  · rw [upd_ne hb, upd_ne hb]
    by_cases hb2 : b = a
    · rw [hb2, del_same, hn]
    · rw [del_ne hb2, upd_ne hb2, upd_ne hb, upd_ne hb2]
theorem out_eq {α : Type} {w : Wd} {Ex : XK} {r : R α} {Z : α → List O → Wd → Prop} (o : Out w Ex r Z) : Out w Ex r (fun a h w' => r = .ok a h ∧ Z a h w') := by
  cases r with
  | no => exact o
  | er c vs h => exact o
  | ok a h => exact fun w' s r' => ⟨rfl, o w' s r'⟩
theorem evs_length : ∀ {es : List E} {σ : S} {h h' : List O} {ds : List D}, evs es σ h = .ok ds h' → ds.length = es.length
  | [], _, _, _, _, e => by cases e; rfl
  | a :: as, σ, h, h', ds, e => by
    obtain ⟨x, h1, _, e⟩ := next_ok (show (a σ h).next _ = .ok ds h' from e)
    obtain ⟨xs, h2, e2, e⟩ := next_ok (show (evs as σ h1).next _ = .ok ds h' from e)
    have e : R.ok (x :: xs) h2 = R.ok ds h' := e
    cases e
    rw [List.length_cons, List.length_cons, evs_length e2]
section
variable {X : Cx} {gd : Gd} {Ex : XK} {e : Expr} {me : E} {C fI : Addr} {k : Nat} {fd : FuncData} {fl x : Str} {c : String} {p pos pos2 : Pos}
theorem S_raise1 (hc : X.calm = true) (T : OexC X.K C) (iC : PySem.W.findIn X.K (.ref C) "__init__" = some (some (.ref fI))) (tI : PySem.W.typeIn X.K (.ref fI) = some (.type "function"))
    (F1 : FnOk X.prog X.w X.K X.mg X.base (L2.CX X.prog X.w) k fI fd ["self", fl] (sp1 C fl)) (hr : Room (k + 1) X.A) (hb : Binds X.K fd ["self", fl] []) (hx : Passes (L2.CX X.prog X.w) X (fun _ _ _ => False)) (hg : Gl X x) (hm : X.mg x = some (.ref C))
    (tk : Takes X (fun cls d _ H => Ex cls d H)) (hcl : gd.cl c = some C) (hef : exFields c = [fl]) (he : PE X e (tE X.K gd Ex me))
    (hdb : (x == ("__debug__" : Str)) = false := by decide) (hse : starEach [e] X.env = (false, eval e X.env) :: starEach [] X.env := by rfl) :
    PS X (.Raise (some (.Call (.Name x p) [e] [] pos)) none pos2) (tS X.K gd Ex (sRaise c [me])) := by
  refine PS.imp (ps_raise hc tk (pmk_oex (dvs := []) T iC tI F1 hr hb .nil hx hg hm (A_cons he A_nil hse) hdb hse rfl)) fun D σ H h => ?_
  obtain ⟨w0, w1, w, h, aσ, fr, st, wk, wg, rfl, r, sl, o⟩ := h
  refine ⟨w, h, aσ, wk, wg, rfl, r, sl.sl, ?_⟩
  refine Out.mono (out_eq (outS_out (h0 := h) fr st o)) fun ds h1 w' ⟨eq, f1, s1, x1, r1, o1⟩ v rv => ?_
  have k1 := x1.k.trans wk
  have g1 := x1.g.trans wg
  have hl := evs_length eq
  match ds, hl, rv, o1 with
  | [d], _, rv, o1 =>
    by_cases hok : exOk [d] = true
    · rw [if_pos hok] at o1
      rw [Reps] at rv
      obtain ⟨u, r', rfl, rd, rr⟩ := rv
      rw [Reps] at rr
      subst rr
      cases d with
      | str z =>
        have hz : z.length ≤ 1000000 := by simpa [exOk, exOk1] using hok
        rw [rep_str] at rd
        obtain ⟨rfl, ok⟩ := rd
        refine ⟨by show 1 ≤ 1000; decide, fun a ha => ⟨a, ⟨z.toArray⟩, rfl, by show z.toArray.size ≤ _; simpa using hz, upd_same, fun dx hdx hne => ⟨rfl, dx, [(fl, .str ⟨z.toArray⟩)], upd_same, ?_, ?_, ?_⟩⟩⟩
        · rw [upd_ne hne, upd_same]
        · rw [upd_ne hne] at hdx; exact hdx
        · rw [upd_ne hne] at hdx
          rw [upd_del ha hne]
          obtain ⟨x1, r2, st2⟩ := (f1.xs (xs_put (o := .xd [(fl, .str ⟨z.toArray⟩)]) hdx)).back (r1.put hdx)
          refine o1 ((w'.put dx (.xd [(fl, .str ⟨z.toArray⟩)])).back w0) C dx x1 r2 ?_ ⟨[(fl, .str ⟨z.toArray⟩)], upd_same, by rw [hef]; rfl, .cons (by rw [rep_str]; exact ⟨rfl, ok⟩) .nil⟩
          rw [← f1.g, g1]
          exact hcl
      | _ => exact absurd hok (by simp [exOk, exOk1])
    · rw [if_neg hok] at o1
      exact o1.elim
end
end Cf
set_option Elab.async false
set_option linter.all false
set_option maxRecDepth 100000
set_option maxHeartbeats 2000000
/-! CfT: try with clauses «except C as e» that let nothing out. -/
namespace Cf
open PySem PySem.Spec PyProof.Rows L2

abbrev SuR := Addr → Value → Option Addr → TS
/-- the ends of a suite whose name goes -/
def sufE (i : Nat) (D : Ends) : Ends := ⟨fun τ G => D.nx (τ.set i none) G, D.rt, fun τ G => D.bk (τ.set i none) G, fun τ G => D.ct (τ.set i none) G⟩
/-- one clause after another is asked; one of them must take it -/
def asked (K : PySem.W.Frag) (D : Ends) (i : Nat) : List (Value × SuR) → WX
  | [] => fun _ _ _ _ => False
  | cl :: more => fun cls d τ G => ∃ yes, PySem.W.exmOne K cls cl.1 = some yes ∧ if yes = true then ∀ a, G a = none → i < τ.length → cl.2 a cls d (sufE i D) (τ.set i (some (.ref a))) G else asked K D i more cls d τ G
/-- an exception at a has come down -/
structure Down (X : Cx) (pins : List (Addr × Obj)) (τ : L2.St) (G : Hp) (a : Addr) (cls : Value) (d : Option Addr) (s : Shared) : Prop where
  hid : G a = none
  air : ∃ B, HandSPX.FlyingZ B (X.env :: X.outer) a (Zc cls d) s.heap ∧ ∀ h, HandSPX.FlyingZ B (X.env :: X.outer) a (Zc cls d) h → s.heap.UpToSlots h → Inv X pins τ G { s with heap := h }
section
variable {X : Cx} {pins : List (Addr × Obj)} {τ : L2.St} {G : Hp} {a : Addr} {cls : Value} {d : Option Addr} {s : Shared} {n : Str} {i : Nat}
theorem upto_refl (h : Heap) : h.UpToSlots h := fun b o e _ => ⟨o.slots, e⟩
/-- the suite's context in a state in which the exception flies -/
theorem Down.inside {B : Heap} {h : Heap} (hf : X.env.frame = some X.env.locals) (hid : G a = none) (fl : HandSPX.FlyingZ B (X.env :: X.outer) a (Zc cls d) h) (I : Inv X pins τ G { s with heap := h }) :
    ∃ oe, Zc cls d oe ∧ (∃ vs, oe.data = .fields vs) ∧ h.get? a = some oe ∧ Inv (X.suite a ((a, oe) :: (X.pn ++ pins))) [] τ G { s with heap := h } := by
  obtain ⟨oe, vs, at_, z, dt⟩ := fl.there
  have apart : ∀ b ∈ frs (X.env :: X.outer), b ≠ a := by
    intro b hb e
    obtain ⟨_, ob, eb, nofields⟩ := fl.2.2.1.mem hb
    rw [e, at_] at eb
    cases eb
    exact nofields vs dt
  have inFrs : ∀ e ∈ X.env :: X.outer, ∀ b, e.frame = some b → b ∈ frs (X.env :: X.outer) := fun e he b eb => List.mem_filterMap.mpr ⟨e, he, eb⟩
  refine ⟨oe, z, ⟨vs, dt⟩, at_, I.suite at_ dt hid (fun e => apart _ (inFrs X.env (List.mem_cons_self ..) _ hf) e.symm) fun hm => ?_⟩
  obtain ⟨e, he, eb⟩ := List.mem_filterMap.mp hm
  exact apart a (inFrs e (List.mem_cons_of_mem _ he) a eb) rfl
/-- what is in the air of X comes down -/
theorem down_of {B : Heap} {sI : Shared} {M : Model} {Q : Unit → Shared → Prop} {E₁ : Value → Shared → Prop} (hs : X.stack = X.env :: X.outer) (hfr : X.A.frames = some (X.env :: X.outer)) (hf : X.env.frame = some X.env.locals) (I : Inv X pins τ G sI)
    (nb : ∀ b o, sI.heap.get? b = some o → b ∉ frs X.stack → B.get? b = some o) (up : sI.heap.UpToSlots s.heap) (sky : Sky B X.stack a (Zc cls d) X.env.locals s.heap) (na : G a = none) (os : s.os = sI.os) (ag : AllBare s.gens)
    (k : ∀ s', Down X pins τ G a cls d s' → Q () s') : wpAny M X.A (noteFrame (.ref a) X.env) (fun _ s₂ => wpAny M X.A (setFlight (.ref a) none) Q E₁ s₂) E₁ s := by
  rw [hs] at sky
  refine Sky.land Zc.steady hfr hf sky fun h fl u1 => k _ ⟨na, B, fl, fun h2 fl2 u2 => ?_⟩
  exact I.landed (s' := { s with heap := h2 }) nb fl2.1 ((up.trans u1).trans u2) os ag
end
/-- the clauses, their suites walked -/
inductive Clauses (X : Cx) (n : Str) : List ExceptHandler → List (Value × SuR) → Prop
  | nil : Clauses X n [] []
  | cons {x : Str} {c : Value} {ts : SuR} {first : Stmt} {more : List Stmt} {np hp : Pos} {hs : List ExceptHandler} {l : List (Value × SuR)} (named : Names X x c)
      (walked : ∀ a oe cls d pn, Zc cls d oe → (∃ vs, oe.data = .fields vs) → PSs (X.suite a ((a, oe) :: pn)) (first :: more) (ts a cls d)) (r : Clauses X n hs l) : Clauses X n (.ExceptHandler (some (.Name x np)) (some n) (first :: more) hp :: hs) ((c, ts) :: l)
section
variable {X : Cx} {pins : List (Addr × Obj)} {τ : L2.St} {G : Hp} {a : Addr} {cls : Value} {d : Option Addr} {s : Shared} {n : Str} {i : Nat} {D : Ends}
/-- a suite, run; its name goes behind it -/
theorem Down.run {ts : SuR} {first : Stmt} {more : List Stmt} {hp : Pos} (hf : X.env.frame = some X.env.locals) (hN : X.N.Nodup) (hi : X.N[i]? = some n) (hl : X.env.kindOf n = some .local) (w : Down X pins τ G a cls d s)
    (walked : ∀ a oe cls d pn, Zc cls d oe → (∃ vs, oe.data = .fields vs) → PSs (X.suite a ((a, oe) :: pn)) (first :: more) (ts a cls d)) (want : ts a cls d (sufE i D) (τ.set i (some (.ref a))) G) :
    codeAny (model X.prog X.w) (X.A.mark (some (.ref a))) (.handlers (.ref a) [.ExceptHandler none (some n) (first :: more) hp] X.env) (fun r s2 => match r with
      | .ok f => wpAny (model X.prog X.w) X.A (do bindName X.env n .none; unbindBehindTheSuite X.env n hp) (fun _ s3 => SP X pins D f s3) X.xe s2
      | .error x => cameBackBy (model X.prog X.w) X.A X.env X.xe x s2) s := by
  obtain ⟨B, fl, inv⟩ := w.air
  have okX := (inv s.heap fl (upto_refl _)).ok
  refine codeAny_handlers_suite_as (HandSPX.lands_againZ fl fun h fl2 up2 => ?_)
  obtain ⟨oe, z, vs, _, S⟩ := Down.inside hf w.hid fl2 (inv h fl2 up2)
  refine store_ok (X := X.suite a ((a, oe) :: (X.pn ++ pins))) (v := .ref a) S hN hi (.inl hl) rfl (fun s5 S5 => ?_) (.inr hl)
  have gone : ∀ {τ' : L2.St} {G' : Hp} {s6 : Shared} {Q : Shared → Prop}, Inv (X.suite a ((a, oe) :: (X.pn ++ pins))) [] τ' G' s6 → (∀ s7, Inv X pins (τ'.set i none) G' s7 → Q s7) →
      wpAny (model X.prog X.w) X.A (do bindName X.env n .none; unbindBehindTheSuite X.env n hp) (fun _ s7 => Q s7) X.xe s6 := fun S6 q => gone_ok (S6.unsuite okX) hN hi hl q
  have ran := (walked a oe cls d (X.pn ++ pins) z vs).run [] s5 _ G _ S5 want
  refine wpAny_mono ran (fun f s6 e6 => ?_) fun _ _ never => never.elim
  cases f with
  | next => obtain ⟨_, _, S6, q⟩ := e6; exact gone S6 fun _ J => ⟨_, _, J, q⟩
  | brk => obtain ⟨_, _, S6, q⟩ := e6; exact gone S6 fun _ J => ⟨_, _, J, q⟩
  | cont => obtain ⟨_, _, S6, q⟩ := e6; exact gone S6 fun _ J => ⟨_, _, J, q⟩
  | ret u => obtain ⟨_, _, _, S6, r, q⟩ := e6; exact gone S6 fun _ J => ⟨_, _, _, J, r, q⟩
theorem Down.handled {hs : List ExceptHandler} {l : List (Value × SuR)} (cs : Clauses X n hs l) (hf : X.env.frame = some X.env.locals) (hN : X.N.Nodup) (hi : X.N[i]? = some n) (hl : X.env.kindOf n = some .local) (w : Down X pins τ G a cls d s)
    (q : asked X.K D i l cls d τ G) : wpAny (model X.prog X.w) X.A (handleBy (.ref a) X.env hs) (SP X pins D) X.xe s := by
  induction cs with
  | nil => exact False.elim q
  | @cons x c ts first more np hp hs l named walked r ih =>
    obtain ⟨yes, hyes, q⟩ := q
    obtain ⟨B, fl, inv⟩ := w.air
    have I := inv s.heap fl (upto_refl _)
    obtain ⟨oe, z, vs, at_, S⟩ := Down.inside hf w.hid fl I
    have ty : PySem.W.Looks (model X.prog X.w) s.heap (typeOf (.ref a)) cls := fun A Q E t k e => wpAny_typeOf_ref (k a oe at_) (by rw [z.1]; exact e)
    have ans := PySem.W.exm_one (M := model X.prog X.w) I.kIn ty hyes
    refine wpAny_handleBy_cons (codeAny_handlers_test ?_) (by intro never; cases never)
    have name : ∀ {Q : Value → Shared → Prop} {E : Value → Shared → Prop}, Q c s → wpAny (model X.prog X.w) (X.A.mark (some (.ref a))) (eval (.Name x np) X.env) Q E s := by
      intro Q E e
      obtain ⟨g, nd, own | ⟨none, blt, nn⟩⟩ := named
      · exact ld_glob (X := X.suite a ((a, oe) :: (X.pn ++ pins))) S g own e nd
      · exact ld_blt (X := X.suite a ((a, oe) :: (X.pn ++ pins))) S g none blt e nn nd
    refine name (ans.here ?_)
    cases yes with
    | false => exact ih q
    | true => exact w.run hf hN hi hl walked (q a w.hid (by rw [I.len]; exact (List.getElem?_eq_some_iff.mp hi).1))
theorem ps_try_manyA {body : List Stmt} {h₀ : ExceptHandler} {hds : List ExceptHandler} {l : List (Value × SuR)} {pos : Pos} {tb : WX → TS} (hs : X.stack = X.env :: X.outer) (hf : X.env.frame = some X.env.locals) (hN : X.N.Nodup) (hi : X.N[i]? = some n) (hl : X.env.kindOf n = some .local)
    (hb : ∀ (W : WX) (pn : List (Addr × Obj)) (xe : Value → Shared → Prop), Takes (X.tr pn xe) W → PSs (X.tr pn xe) body (tb W)) (cs : Clauses X n (h₀ :: hds) l) :
    PS X (.Try body (h₀ :: hds) [] [] pos) (fun D σ H => tb (asked X.K D i l) D σ H) := by
  constructor
  intro pins s σ H D I want
  have okX := I.ok
  have frames : X.A.frames = some (X.env :: X.outer) := by rw [← hs]; exact okX.frames
  let air : Value → Shared → Prop := fun e s1 => wpAny (model X.prog X.w) X.A (noteFrame e X.env) (fun _ s2 => wpAny (model X.prog X.w) X.A (setFlight e none) (fun _ s3 => wpAny (model X.prog X.w) X.A (handleBy e X.env (h₀ :: hds)) (SP X pins D) X.xe s3) X.xe s2) X.xe s1
  have takes : Takes (X.tr (X.pn ++ pins) air) (asked X.K D i l) := by
    rintro u s1 ⟨a, B, sI, p, τ, G, cls, d, rfl, J, nb, up, sky, na, os, ag, w⟩
    exact down_of hs frames hf (J.ofTry okX) nb up sky na os ag fun s' dn => dn.handled cs hf hN hi hl w
  refine wpAny_Try_except (wpAny_mono ((hb _ _ air takes).run [] s σ H D (I.toTry _) want) (fun f s1 e => ?_) fun _ _ e => e)
  cases f with
  | next => obtain ⟨τ, G, J, q⟩ := e; exact wpAny_execs_nil ⟨τ, G, J.ofTry okX, q⟩
  | brk => obtain ⟨τ, G, J, q⟩ := e; exact ⟨τ, G, J.ofTry okX, q⟩
  | cont => obtain ⟨τ, G, J, q⟩ := e; exact ⟨τ, G, J.ofTry okX, q⟩
  | ret u => obtain ⟨v, τ, G, J, r, q⟩ := e; exact ⟨v, τ, G, J.ofTry okX, r, q⟩
end
end Cf
set_option Elab.async false
set_option linter.all false
set_option maxRecDepth 100000
set_option maxHeartbeats 4000000
/-! CfM: isinstance of a caught exception that has its own dict. -/
namespace Cf
open PySem PySem.Spec PyProof.Rows L2
/-- isinstance(e, c): e the exception of the suite, its own dict at d, its class at B -/
def rIsD (K : PySem.W.Frag) (B a d : Addr) : List V → Hp → VK → Prop := fun xs H Q => ∃ (k : V) (kv : Value) (ans : Bool) (held : List (Str × V)), xs = [.ref a, k] ∧ (∀ z, RelV k z → z = kv) ∧ PySem.W.kitOne K (.ref B) kv = some ans ∧ H d = some (.xd held) ∧ Q (.bl ans) H
theorem own_at {P : Program} {w : World} {H : Hp} {h : Heap} {dd : Addr} {held : List (Str × V)} (ok : HOk P w H h) (hd : H dd = some (.xd held)) : ∃ od, h.get? dd = some od := by
  obtain ⟨m, ⟨od, _, _, e, _⟩, _⟩ : ObjOk P w H h dd (.xd held) := ok dd _ hd
  exact ⟨od, e⟩
theorem call_isD {X : Cx} {a B dd : Addr} {oe : Obj} {more : List (Addr × Obj)} (C : ExcC X.K B) (hz : Zc (.ref B) (some dd) oe) (hf : ∃ vs, oe.data = .fields vs) : CallR (X.suite a ((a, oe) :: more)) (.builtin "isinstance") (rIsD X.K B a dd) := by
  rintro pins s σ H xs us Q I vals ⟨k, kv, ans, held, rfl, only, hk, hd, q⟩
  obtain ⟨u1, u2, rfl, r1, r2⟩ := vals2 vals
  cases r1
  obtain rfl := only _ r2
  have here := (I.pin (a, oe) (List.mem_append_left _ (List.mem_cons_self ..))).1
  obtain ⟨od, ho⟩ := own_at I.hok hd
  obtain ⟨fv, hfv⟩ := hf
  have inst : PySem.W.InstAt s.heap a oe B (some od) := ⟨here, hz.1, by unfold PySem.W.notCls; rw [hfv] <;> rfl, by rw [hz.2]; exact ho⟩
  obtain ⟨cd, hcd, _⟩ := PySem.W.any_some C.hd
  have kit := PySem.W.kitx_exc (x := a) (ox := oe) (od := some od) (by rw [hcd]; rfl) C.hg C.hk C.hs C.ha C.hn C.ht C.hm
  exact PySem.W.kia_one kit I.kIn inst hk (fun z => nomatch z) fun t => ⟨.bl ans, H, I.tok t, rfl, q⟩
end Cf
set_option Elab.async false
set_option linter.all false
set_option maxRecDepth 100000
set_option maxHeartbeats 2000000
/-! CfN: what a call raised is heard. -/
namespace Cf
open PySem PySem.Spec PyProof.Rows L2

/-- the reading of the def that asks: nothing raised; a bad argument -/
def TTh (K : PySem.W.Frag) (CB : Addr) : (XK → Hp → VK → Prop) → Hp → VK → Prop := fun tl H Q =>
  tl (fun cls d H' => cls = .ref CB ∧ ∃ dd fs v, d = some dd ∧ H' dd = some (.xd fs) ∧ fs.lookup ("name" : Str) = some v ∧ ∀ p, H' p = none → Q (.ref p) (upd H' p (.tup [.str "bad", v, .bl true]))) H
    (fun _ H' => tTup tNil [] H' Q)
/-- what the suite of the first clause says -/
def tBad (K : PySem.W.Frag) (CB a : Addr) (cls : Value) (d : Option Addr) : TS := fun D σ H => cls = .ref CB ∧ σ[1]? = some (some (.ref a)) ∧ ∃ dd fs v, d = some dd ∧ H dd = some (.xd fs) ∧ fs.lookup ("name" : Str) = some v ∧ ∀ p, H p = none → D.rt (.ref p) (upd H p (.tup [.str "bad", v, .bl true]))
def tNv (a : Addr) (cls : Value) (d : Option Addr) : TS := fun _ _ _ => False
section
variable {X : Cx} {CB CE C2 C3 C4 g : Addr} {cdg : Value} {sg : Scope} {x q : Str} {p1 p2 p3 p4 p5 p6 p7 p8 p9 p10 p11 p12 p13 p14 p15 p16 p17 p18 p19 p20 p21 : Pos} {j1 k1 k2 : Nat} {q1 q2 q3 q4 q5 q6 q7 q8 q9 : Pos} {s2 s3 s4 : List Stmt} {b2 b3 b4 : Stmt} {n2 n3 n4 : Str}
theorem suite_bad {Z : Cx} {a : Addr} {oe : Obj} {cls : Value} {d : Option Addr} {pn : List (Addr × Obj)} (T : XfC Z.K CB) (C : ExcC Z.K CB) (hno : PySem.W.findIn Z.K (.ref CB) "name" = some none) (hz : Zc cls d oe) (hf : ∃ vs, oe.data = .fields vs)
    (hN : Z.N[1]? = some ("e" : Str)) (hv : Vis Z.env.scope "e") (gE : Gl Z "CrossError") (mE : Z.mg "CrossError" = some (.ref CE)) (gV : Gl Z "ValueError") (mV : Z.mg "ValueError" = none) (gI : Gl Z "isinstance") (mI : Z.mg "isinstance" = none)
    (kE : PySem.W.kitOne Z.K (.ref CB) (.ref CE) = some true) (kV : PySem.W.kitOne Z.K (.ref CB) (.type "ValueError") = some true)
    (hb : ∀ env : Env, env = Z.env → attributeBase (.Name "e" p3) "name" env (eval (.Name "e" p3) env) = eval (.Name "e" p3) env) :
    PSs (Z.suite a ((a, oe) :: pn)) [.Return (some (.Tuple [.Constant (.str "bad") j1 p2, .Attribute (.Name "e" p3) "name" p4, .BoolOp .And [.Call (.Name "isinstance" p5) [.Name "e" p6, .Name "CrossError" p7] [] p8, .Call (.Name "isinstance" p9) [.Name "e" p10, .Name "ValueError" p11] [] p12] p13] k1 p14)) p15] (tBad Z.K CB a cls d) := by
  refine ⟨fun pins s σ H D I h => ?_⟩
  obtain ⟨rfl, hs, dd, fs, v, rfl, hd, hl, q⟩ := h
  have pe : ∀ {p : Pos}, PE (Z.suite a ((a, oe) :: pn)) (.Name "e" p) (tVar 1) := fun {p} => pe_var hN hv (by decide) (by decide)
  have i1 : PE (Z.suite a ((a, oe) :: pn)) (.Call (.Name "isinstance" p5) [.Name "e" p6, .Name "CrossError" p7] [] p8) _ := pe_callB (call_isD C hz hf) gI mI (by decide +kernel) (pa_cons pe (pa_cons (pe_glob (v := .ref CE) gE mE rfl) pa_nil))
  have i2 : PE (Z.suite a ((a, oe) :: pn)) (.Call (.Name "isinstance" p9) [.Name "e" p10, .Name "ValueError" p11] [] p12) _ := pe_callB (call_isD C hz hf) gI mI (by decide +kernel) (pa_cons pe (pa_cons (pe_bltn (v := .ty "ValueError") gV mV PyProof.Rows.Boot.«ValueError» rfl) pa_nil))
  refine (pss_one (ps_ret (pe_tup (pa_cons pe_str (pa_cons (pe_xf T hno hz hf pe (hb _ rfl)) (pa_cons (pe_and i1 (pe_one i2)) pa_nil)))))).run pins s σ H D I ?_
  show tTup _ σ H D.rt
  refine ⟨.ref a, hs, rfl, rfl, dd, fs, v, rfl, hd, hl, ?_⟩
  refine ⟨.ref a, hs, .ref CE, .ref CE, true, fs, rfl, (fun u hu => hu), kE, hd, true, rfl, ?_⟩
  rw [if_pos rfl]
  refine ⟨.ref a, hs, .ty "ValueError", .type "ValueError", true, fs, rfl, (fun u hu => hu), kV, hd, ?_⟩
  exact ⟨by show 3 ≤ sizeLine; decide, q⟩
/-- the def that asks, gives -/
theorem heard_gives (hI : sg.names.lookup ("isinstance" : Str) = some .globalImplicit) (hE : sg.names.lookup ("CrossError" : Str) = some .globalImplicit) (hV : sg.names.lookup ("ValueError" : Str) = some .globalImplicit) (hB : sg.names.lookup ("BadArgument" : Str) = some .globalImplicit)
    (hlA : sg.names.lookup ("ask" : Str) = some .local) (hlE : sg.names.lookup ("e" : Str) = some .local) (mI : X.mg "isinstance" = none) (mE : X.mg "CrossError" = some (.ref CE)) (mV : X.mg "ValueError" = none) (mB : X.mg "BadArgument" = some (.ref CB))
    (h2 : sg.names.lookup n2 = some .globalImplicit) (m2 : X.mg n2 = some (.ref C2)) (d2 : (n2 == ("__debug__" : Str)) = false) (h3 : sg.names.lookup n3 = some .globalImplicit) (m3 : X.mg n3 = some (.ref C3)) (d3 : (n3 == ("__debug__" : Str)) = false)
    (h4 : sg.names.lookup n4 = some .globalImplicit) (m4 : X.mg n4 = some (.ref C4)) (d4 : (n4 == ("__debug__" : Str)) = false)
    (T : XfC X.K CB) (C : ExcC X.K CB) (hno : PySem.W.findIn X.K (.ref CB) "name" = some none) (kE : PySem.W.kitOne X.K (.ref CB) (.ref CE) = some true) (kV : PySem.W.kitOne X.K (.ref CB) (.type "ValueError") = some true) (hx : PySem.W.exmOne X.K (.ref CB) (.ref CB) = some true)
    (hb : ∀ (qual : Str) (L f : Addr) (cd : Value), attributeBase (.Name "e" p3) "name" (envOfC qual sg L f cd) (eval (.Name "e" p3) (envOfC qual sg L f cd)) = eval (.Name "e" p3) (envOfC qual sg L f cd)) :
    LamX.GivesTo X ["ask", "e"] x sg g cdg [.Try [.Expr (.Call (.Name "ask" p16) [] [] p17) p18] [
      .ExceptHandler (some (.Name "BadArgument" p19)) (some "e") [.Return (some (.Tuple [.Constant (.str "bad") j1 p2, .Attribute (.Name "e" p3) "name" p4, .BoolOp .And [.Call (.Name "isinstance" p5) [.Name "e" p6, .Name "CrossError" p7] [] p8, .Call (.Name "isinstance" p9) [.Name "e" p10, .Name "ValueError" p11] [] p12] p13] k1 p14)) p15] p20,
      .ExceptHandler (some (.Name n2 q1)) (some "e") (b2 :: s2) q2, .ExceptHandler (some (.Name n3 q3)) (some "e") (b3 :: s3) q4, .ExceptHandler (some (.Name n4 q5)) (some "e") (b4 :: s4) q6] [] [] q7, .Return (some (.Tuple [] k2 q8)) q9] "ask" q (TTh X.K CB) := by
  intro f c' s H Q tl act hc h
  have hcl : H c' = some (LamX.CodeO c' q) := hc
  refine ⟨_, pss_cons (ps_try_manyA (i := 1) (X := (cxOf C8.CX0 X.prog X.w X.K X.mg X.base ["ask", "e"] x sg g cdg X.A X.stack s H C8.E0).nox) (l := [(.ref CB, tBad X.K CB), (.ref C2, tNv), (.ref C3, tNv), (.ref C4, tNv)])
      (tb := fun W D σ H => ∃ Ech : XK, (∀ cls d σ' H', Ech cls d H' → W cls d σ' H') ∧ σ[0]? = some (some (.ref f)) ∧ H c' = some (LamX.CodeO c' q) ∧ tl Ech H (fun _ H' => D.nx σ H'))
      rfl rfl (show (["ask", "e"] : List Str).Nodup by decide) rfl hlE (fun W pn xe tk => ?_) (.cons ⟨hB, by decide, .inl mB⟩ (fun a oe cls d pn hz hf => ?_) (.cons ⟨h2, d2, .inl m2⟩ (fun a oe cls d pn hz hf => pss_never) (.cons ⟨h3, d3, .inl m3⟩ (fun a oe cls d pn hz hf => pss_never) (.cons ⟨h4, d4, .inl m4⟩ (fun a oe cls d pn hz hf => pss_never) .nil)))))
    (pss_one (ps_ret (pe_tup pa_nil))), ?_⟩
  · refine ⟨fun pins s' σ H' D I h' => ?_⟩
    obtain ⟨Ech, hW, e1, e2, e3⟩ := h'
    exact (pss_one (ps_expr (pos := p18) (act W pn xe Ech p16 p17 tk hW) rfl)).run pins s' σ H' D I ⟨e1, e2, e3⟩
  · exact suite_bad T C hno hz hf rfl (.inl hlE) hE mE hV mV hI mI kE kV fun env e => by rw [e]; exact hb _ _ _ _
  · refine ⟨_, fun cls d σ' H' hq => ?_, rfl, hc, h⟩
    obtain ⟨rfl, dd, fs, v, rfl, hd, hl, q⟩ := hq
    refine ⟨true, hx, ?_⟩
    rw [if_pos rfl]
    refine fun a na hi => ⟨rfl, ?_, dd, fs, v, rfl, hd, hl, q⟩
    rw [List.getElem?_set_self hi]
end
theorem heardAs_some {c : String} {vs : List D} {d : D} (e : heardAs c vs = some d) : ∃ v, c = "BadArgument" ∧ vs = [v] ∧ d = .tup [.str (cps "bad"), v, .bl true] := by
  unfold heardAs at e
  split at e
  · exact ⟨_, rfl, rfl, (Option.some.inj e).symm⟩
  · cases e
section
variable {X : Cx} {gd : Gd} {Ex : XK} {CB P : Addr} {me : E} {σ : L2.St} {H : Hp} {Q : VK}
theorem heard_tE (hcl : gd.cl "BadArgument" = some CB) (q : tE X.K gd Ex (eHeard me) σ H Q) : LamX.tLam gd.T (TTh X.K CB) (fun E => tE X.K gd E me) σ H Q := by
  obtain ⟨w, h, aσ, wk, wg, rfl, r, sl, o⟩ := q
  refine ⟨by rw [← wg]; exact r.tT, fun H1 eN T1 => ?_⟩
  have x1 := xs_tab eN
  have r1 := r.tab ⟨eN, by rw [wg]; exact T1⟩
  refine ⟨w.tab H1, h, aσ, wk, wg, rfl, r1, sl.xs x1 r, ?_⟩
  have o : Out w Ex (match me aσ h with
    | .ok _ h' => R.ok (.tup []) h'
    | .er c vs h' => match heardAs c vs with
      | some d => .ok d h'
      | none => .no
    | .no => .no) (fun d _ w' => ∀ v, Rep w' d v → Q v w'.H) := o
  cases e : me aσ h with
  | no => rw [e] at o; exact o
  | ok d h1 =>
    rw [e] at o
    exact fun w2 s2 r2 v rv => ⟨Nat.zero_le _, fun p hp => o (w2.put p (.tup [])) ((x1.trans s2).trans (xs_put hp)) (r2.put hp) _ (rep_tup r2 hp .nil)⟩
  | er c vs h1 =>
    rw [e] at o
    have o : Out w Ex (match heardAs c vs with
      | some d => R.ok d h1
      | none => .no) (fun d _ w' => ∀ v, Rep w' d v → Q v w'.H) := o
    cases ea : heardAs c vs with
    | none => rw [ea] at o; exact o.elim
    | some dd =>
      rw [ea] at o
      obtain ⟨v0, rfl, rfl, rfl⟩ := heardAs_some ea
      · intro w2 C dx s2 r2 hc hx
        have hc : w.gd.cl "BadArgument" = some C := hc
        rw [wg, hcl] at hc
        cases hc
        obtain ⟨fs, e1, e2, e3⟩ := hx
        have e2 : fs.map (·.1) = [("name" : Str)] := e2
        match fs, e2, e3 with
        | [(n, u)], e2, e3 =>
          have en : n = ("name" : Str) := by simpa using e2
          subst en
          have e3 : Reps w2 [v0] [u] := e3
          rw [Reps] at e3
          obtain ⟨x, r', ex, ru, _⟩ := e3
          cases ex
          refine ⟨rfl, dx, _, u, rfl, e1, by simp, fun p hp => ?_⟩
          refine o (w2.put p (.tup [.str "bad", u, .bl true])) ((x1.trans s2).trans (xs_put hp)) (r2.put hp) _ (rep_tup r2 hp (.cons ?_ (.cons ru (.cons (by rw [rep_bl]) .nil))))
          rw [rep_str]
          exact ⟨by decide +kernel, okL_of (by decide +kernel)⟩
end
section
variable {X : Cx} {gd : Gd} {Ex : XK} {CB g c P : Addr} {me : E} {x : Str} {k : Nat} {st : Stmt} {fd : FuncData} {cdg : Value} {params : Arguments} {body : Expr} {scope : Scope} {p lpos pos : Pos}
theorem R_heard (F : Dn X.K x x st g fd cdg) (hg : Gl X x) (hm : X.mg x = some (.ref g)) (hb : L2.Binds X.K fd ["ask"] []) (Sg : FnScope ["ask", "e"] ["ask"] (defScope st))
    (hG : LamX.GivesTo X ["ask", "e"] x (defScope st) g cdg (defBody st) "ask" (X.env.qual ++ "<lambda>") (TTh X.K CB)) (hcl : gd.cl "BadArgument" = some CB)
    (TB : LamX.TabB X.base X.mg c P) (hcode : X.env.code = .ref c) (hmT : (P, X.env.qual ++ "<lambda>") ∈ gd.T) (hu : ∀ p ∈ gd.T, p.1 = P → p.2 = X.env.qual ++ "<lambda>") (hr : Room (k + 2) X.A) (L : LamX.LamS X.env.scope scope) (hdef : defaultsOf params X.env = ([], []))
    (hbind : ∀ (q : Str) (cl : List (Str × Addr)) (pm cv ctv : Value), bindArgs (PySem.W.kla_fn "<lambda>" q params body scope cl pm cv ctv) ⟨[], []⟩ = pure [])
    (hbody : ∀ (A : Around) (outer : List Env) (s : Shared) (H : Hp) (E : XK) (f c' : Addr), Room k (A.deeper (LamX.lamEnv X scope s.heap.objs.size f c')) → PE (LamX.lamCx X A outer s H E scope f c') body (tE X.K gd E me))
    (hdb : (x == ("__debug__" : Str)) = false := by decide) : PE X (.Call (.Name x p) [.Lambda params body scope lpos] [] pos) (tE X.K gd Ex (eHeard me)) := by
  obtain ⟨oc, od, kV, doc, pm, an, ct, osl, rfl, lk, hcd⟩ := F.ex
  exact PE.imp (LamX.pe_lamcall hg hm F.kp lk hcd hb Sg rfl (Sg.par _ (by simp) |>.elim .inl fun h => .inr (.inl h)) hG TB hcode hmT hu hr L hdef hbind hbody hdb) fun σ H Q h => heard_tE hcl h
end
end Cf
set_option Elab.async false
set_option linter.all false
set_option maxRecDepth 100000
set_option maxHeartbeats 2000000
/-! CfP: isinstance, join, count, [::-1], a written dict. -/
namespace Cf
open PySem PySem.Spec PyProof.Rows L2

def Ty.nm : Ty → String
  | .int => "int" | .bool => "bool" | .str => "str" | .tuple => "tuple" | .list => "list" | .dict => "dict" | .own c => c
def tyNm : D → Option String
  | .non => some "NoneType" | .bl _ => some "bool" | .int _ => some "int" | .str _ => some "str" | .tup _ => some "tuple" | .lst _ => some "list"
  | _ => none
def Ty.blt : Ty → Bool
  | .own _ => false
  | _ => true
theorem tyNm_ask {d : D} (h : askable d = true) : ∃ n, tyNm d = some n := by cases d <;> first | exact ⟨_, rfl⟩ | cases h
theorem kit_d {d : D} {n : String} {t : Ty} (h : tyNm d = some n) (ht : t.blt = true) : kitB n t.nm = some (isTy d t) := by
  cases d <;> cases h <;> cases t <;> first | exact Bool.noConfusion ht | (simp only [isTy, Ty.nm]; decide +kernel)
theorem tyX_of {K : PySem.W.Frag} {w : Wd} {d : D} {n : String} {v : V} (wk : w.K = K) (rv : Rep w d v) (h : tyNm d = some n) : TyX K w.H v (.type n) := by
  subst wk
  cases d with
  | non => cases h; rw [Rep] at rv; subst rv; exact .base .non
  | bl b => cases h; rw [Rep] at rv; subst rv; exact .base (.bl b)
  | int b => cases h; rw [Rep] at rv; subst rv; exact .base (.int b)
  | str b => cases h; rw [Rep] at rv; obtain ⟨rfl, _⟩ := rv; exact .base (.str _)
  | tup b =>
    cases h; rw [Rep] at rv
    obtain ⟨a, xs, rfl, t, _⟩ := rv
    rcases t with ⟨t | ⟨o, t⟩, _⟩ | (t | ⟨o, t⟩) | ⟨o, its, n, e, c, _⟩
    · exact .base (.tup t)
    · exact .fTuple t
    · cases t
    · cases t
    · exact .kTuple e c
  | lst b =>
    cases h; rw [Rep] at rv
    obtain ⟨a, xs, rfl, t, _⟩ := rv
    rcases t with ⟨t | ⟨o, t⟩, _⟩ | (t | ⟨o, t⟩) | ⟨o, its, n, e, c, _⟩
    · exact .base (.lst t)
    · exact .base (.frz t)
    · cases t
    · cases t
    · exact .kList e c
  | _ => cases h
theorem strs_reps {w : Wd} : ∀ {ds : List D} {xs : List V} {ys : List (List Nat)}, Reps w ds xs → strsOf ds = some ys → xs = ys.map (fun y => V.str ⟨y.toArray⟩) ∧ ∀ y ∈ ys, SOk y
  | [], _, _, r, e => by rw [Reps] at r; subst r; cases e; exact ⟨rfl, fun y h => nomatch h⟩
  | d :: ds, _, ys, r, e => by
    rw [Reps] at r
    obtain ⟨x, xr, rfl, rd, rr⟩ := r
    cases d with
    | str s =>
      have e : (strsOf ds).map (s :: ·) = some ys := e
      obtain ⟨zs, e1, e2⟩ := Option.map_eq_some_iff.mp e
      subst e2
      rw [rep_str] at rd
      obtain ⟨rfl, ok⟩ := rd
      obtain ⟨rfl, oks⟩ := strs_reps rr e1
      exact ⟨rfl, fun y hy => by
        rcases List.mem_cons.mp hy with h | h
        · rw [h]; exact ok
        · exact oks y h⟩
    | _ => cases e
theorem joinL_len (z : List Nat) : ∀ ys : List (List Nat), (joinL z ys).length ≤ (ys.map (·.length)).sum + ys.length * z.length
  | [] => Nat.zero_le _
  | [x] => by show x.length ≤ _; simp
  | x :: y :: r => by
    have ih := joinL_len z (y :: r)
    show (x ++ z ++ joinL z (y :: r)).length ≤ _
    rw [List.length_append, List.length_append]
    simp only [List.map_cons, List.sum_cons, List.length_cons] at ih ⊢
    rw [Nat.add_mul, Nat.one_mul]
    omega
theorem joinL_mem {z : List Nat} {c : Nat} : ∀ {ys : List (List Nat)}, c ∈ joinL z ys → c ∈ z ∨ ∃ y ∈ ys, c ∈ y
  | [], h => nomatch h
  | [x], h => .inr ⟨x, List.mem_cons_self, h⟩
  | x :: y :: r, h => by
    have h : c ∈ x ++ z ++ joinL z (y :: r) := h
    rcases List.mem_append.mp h with h | h
    · rcases List.mem_append.mp h with h | h
      · exact .inr ⟨x, List.mem_cons_self, h⟩
      · exact .inl h
    · rcases joinL_mem h with h | ⟨u, hu, h⟩
      · exact .inl h
      · exact .inr ⟨u, List.mem_cons_of_mem _ hu, h⟩
theorem joinL_flat (z : List Nat) : ∀ (y : List Nat) (ys : List (List Nat)), joinL z (y :: ys) = y ++ ys.flatMap fun p => z ++ p
  | y, [] => by show y = _; simp
  | y, x :: r => by
    show y ++ z ++ joinL z (x :: r) = _
    rw [joinL_flat z x r, List.flatMap_cons, List.append_assoc, List.append_assoc]
theorem glued_flat (z : List Nat) : ∀ (ps : List (List Nat)) (a : Array Nat), ((ps.map fun y => (⟨y.toArray⟩ : Str)).foldl (fun acc p => acc ++ (⟨z.toArray⟩ : Str).cps ++ p.cps) a).toList = a.toList ++ ps.flatMap fun p => z ++ p
  | [], a => by simp
  | y :: r, a => by
    rw [List.map_cons, List.foldl_cons, glued_flat z r, List.flatMap_cons]
    simp
theorem join_is (z : List Nat) (ys : List (List Nat)) : V.str (Txt.join ⟨z.toArray⟩ (ys.map fun y => ⟨y.toArray⟩)) = sv (joinL z ys) := by
  unfold sv
  congr 1
  unfold Txt.join Builtin.Str.glued
  congr 1
  apply Array.ext'
  cases ys with
  | nil => rfl
  | cons y r =>
    rw [joinL_flat]
    have q := glued_flat z r y.toArray
    simp only [List.map_cons, List.drop_succ_cons, List.drop_zero, List.headD_cons]
    rw [q]
theorem cnt_is (c : Nat) : ∀ z : List Nat, cnt c z = (z.count c : Nat)
  | [] => rfl
  | n :: r => by
    rw [cnt_cons, cnt_is c r, List.count_cons]
    by_cases h : n = c
    · subst h; simp; omega
    · simp [h]
theorem count_is1 (z : List Nat) (c : Nat) : V.int (Txt.count ⟨z.toArray⟩ ⟨#[c]⟩) = V.int (z.count c) := by
  rw [count_is]
  have q := cnt_is c z
  unfold cnt at q
  congr 1
section
variable {X : Cx} {gd : Gd} {Ex : XK} {e o i : Expr} {me mo mi : E} {p p2 p3 pos apos : Pos} {k : Nat}
/-- isinstance(x, T) -/
theorem R_isi {t : Ty} {n : String} (ht : t.blt = true) (hn : n = t.nm) (hg : Gl X "isinstance") (hm : X.mg "isinstance" = none) (he : PE X e (tE X.K gd Ex me)) (gT : Gl X (Str.ofString n)) (mT : X.mg (Str.ofString n) = none) (bT : bootBuiltins (Str.ofString n) = some (.type n))
    (hnn : Str.ofString n ≠ "__name__") (hnd : (Str.ofString n == ("__debug__" : Str)) = false)
    (hs : starEach [e, .Name (Str.ofString n) p2] X.env = (false, eval e X.env) :: starEach [.Name (Str.ofString n) p2] X.env := by rfl) :
    PE X (.Call (.Name "isinstance" p) [e, .Name (Str.ofString n) p2] [] pos) (tE X.K gd Ex (e1 (pIsi [t]) me)) := by
  refine PE.imp (pe_callB call_isi hg hm boot_isinstance (pa_cons he (pa_cons (pe_bltn (v := .ty n) gT mT bT rfl hnn hnd) pa_nil) hs) (by decide) (by decide) hs rfl) fun σ H Q h => ?_
  obtain ⟨w, h, aσ, wk, wg, rfl, r, s, o⟩ := h
  refine tE_bind wk wg r s o fun d h1 w1 v s1 k1 g1 r1 sl1 rv o1 => ?_
  obtain ⟨ha, o1⟩ := out_guard o1
  obtain ⟨tn, htn⟩ := tyNm_ask ha
  have hk := kit_d htn ht
  rw [← hn] at hk
  refine ⟨v, .ty n, .type tn, .type n, isTy d t, rfl, .ty n, tyX_of k1 rv htn, kit_ty hk, ?_⟩
  exact out_val o1 r1 (by rw [rep_bl]; simp)
/-- isinstance(x, (T, U)) -/
theorem R_isi2 {t t2 : Ty} {n n2 : String} {kk : Nat} (ht : t.blt = true) (hn : n = t.nm) (ht2 : t2.blt = true) (hn2 : n2 = t2.nm) (hg : Gl X "isinstance") (hm : X.mg "isinstance" = none) (he : PE X e (tE X.K gd Ex me)) (gT : Gl X (Str.ofString n)) (mT : X.mg (Str.ofString n) = none) (bT : bootBuiltins (Str.ofString n) = some (.type n))
    (gT2 : Gl X (Str.ofString n2)) (mT2 : X.mg (Str.ofString n2) = none) (bT2 : bootBuiltins (Str.ofString n2) = some (.type n2))
    (hnn : Str.ofString n ≠ "__name__") (hnd : (Str.ofString n == ("__debug__" : Str)) = false) (hnn2 : Str.ofString n2 ≠ "__name__") (hnd2 : (Str.ofString n2 == ("__debug__" : Str)) = false)
    (hs : starEach [e, .Tuple [.Name (Str.ofString n) p2, .Name (Str.ofString n2) p3] kk apos] X.env = (false, eval e X.env) :: starEach [.Tuple [.Name (Str.ofString n) p2, .Name (Str.ofString n2) p3] kk apos] X.env := by rfl) :
    PE X (.Call (.Name "isinstance" p) [e, .Tuple [.Name (Str.ofString n) p2, .Name (Str.ofString n2) p3] kk apos] [] pos) (tE X.K gd Ex (e1 (pIsi [t, t2]) me)) := by
  refine PE.imp (pe_callB call_isiT hg hm boot_isinstance (pa_cons he (pa_cons (pe_tup (pa_cons (pe_bltn (v := .ty n) gT mT bT rfl hnn hnd) (pa_cons (pe_bltn (v := .ty n2) gT2 mT2 bT2 rfl hnn2 hnd2) pa_nil))) pa_nil) hs) (by decide) (by decide) hs rfl) fun σ H Q h => ?_
  obtain ⟨w, h, aσ, wk, wg, rfl, r, s, o⟩ := h
  refine tE_bind wk wg r s o fun d h1 w1 v s1 k1 g1 r1 sl1 rv o1 => ?_
  obtain ⟨ha, o1⟩ := out_guard o1
  obtain ⟨tn, htn⟩ := tyNm_ask ha
  have hk := kit_d htn ht
  have hk2 := kit_d htn ht2
  rw [← hn] at hk
  rw [← hn2] at hk2
  refine ⟨by show 2 ≤ sizeLine; decide, fun q hq => ?_⟩
  have x2 := xs_put (o := .tup [.ty n, .ty n2]) hq
  refine ⟨v, q, [.ty n, .ty n2], .type tn, [.type n, .type n2], isTy d t || isTy d t2, rfl, upd_same, .cons (.ty n) (.cons (.ty n2) .nil), tyX_of (w := w1.put q _) k1 (Rep.step x2.step _ _ rv) htn, ?_, ?_⟩
  · refine kitAny_cons (kit_ty hk) (fun z => ?_) (fun z => by rw [z, Bool.true_or])
    refine kitAny_cons (kit_ty hk2) (fun z2 => by rw [z, z2]; exact kitAny_nil) (fun z2 => by rw [z2, Bool.or_true])
  · exact o1 (w1.put q _) x2 (r1.put hq) _ (by rw [rep_bl]; simp)
/-- a text turned round -/
theorem R_rev (he : PE X e (tE X.K gd Ex me)) (hlt : ∀ o r, letTemporaryGo e o r = pure () := by intro _ _; rfl) : PE X (.Subscript e (.Slice none none (some (.UnaryOp .USub (.Constant (.int 1) k p) p2)) p3) pos) (tE X.K gd Ex (e1 pRev me)) := by
  refine ⟨fun pins s σ H Q I h => ?_⟩
  obtain ⟨w, h, aσ, wk, wg, rfl, r, sl, o⟩ := h
  refine wpAny_Subscript_Slice_step (T := "str") F.slot_str_getitem.lookup ?_ hlt
  refine thn (he.run pins s σ w.H (fun v H1 => ∃ z : List Nat, v = sv z ∧ SOk z ∧ ∀ t : V, t = sv z.reverse → Q t H1) I ?_) fun v s1 ⟨x, H1, I1, r1, z, ex, ok, q1⟩ => ?_
  · refine tE_bind wk wg r sl o fun d h1 w1 v s1 k1 g1 r1 sl1 rv o1 => ?_
    cases d with
    | str z =>
      rw [rep_str] at rv
      obtain ⟨rfl, ok⟩ := rv
      exact ⟨z, rfl, ok, fun t ht => out_val (show Out w1 Ex (ret (D.str z.reverse) h1) _ from o1) r1 (by rw [rep_str]; exact ⟨ht, by rw [List.length_reverse]; exact ok.len, fun c hc => ok.ok c (List.mem_reverse.mp hc)⟩)⟩
    | _ => exact o1.elim
  subst ex
  obtain ⟨t1, rfl⟩ := r1
  have hst : PO X (some (.UnaryOp .USub (.Constant (.int 1) k p) p2)) (tPart (tUn (rU fun i => .int (-i)) (tC (.int 1)))) := po_some (pe_un un_neg pe_int)
  refine wpAny_Slice (thn (po_none.run pins s1 σ H1 (fun o H2 => o = none ∧ H2 = H1) I1 ⟨rfl, rfl⟩) fun vl s2 ⟨l, H2, I2, pl, el, e2⟩ => ?_)
  subst el e2
  refine thn (po_none.run pins s2 σ H2 (fun o H3 => o = none ∧ H3 = H2) I2 ⟨rfl, rfl⟩) fun vu s3 ⟨u, H3, I3, pu, eu, e3⟩ => ?_
  subst eu e3
  refine thn (hst.run pins s3 σ H3 (fun o H4 => o = some (-1) ∧ H4 = H3) I3 ⟨1, rfl, -1, rfl, rfl, rfl⟩) fun vs s4 ⟨o, H4, I4, ps, eo, e4⟩ => ?_
  subst eo e4
  obtain ⟨l1, rfl, el1⟩ := IsPart.raw pl
  obtain ⟨l2, rfl, el2⟩ := IsPart.raw pu
  obtain ⟨l3, rfl, el3⟩ := IsPart.raw ps
  have I5 : Inv X pins σ H4 { s4 with heap := s4.heap.push { cls := .type "slice", data := .fields #[partValue l1, partValue l2, partValue l3] } } := I4.kept (t' := s4.toks) fun b ob q => Heap.get?_push_of_some _ q
  refine ⟨typeIs_str _ _ _, wpAny_getItem_str_slice (l := l1) (u := l2) (st := l3) ⟨_, Heap.get?_push_size _ rfl, rfl, rfl⟩ ?_ ?_⟩
  · rw [el3]; rfl
  · unfold sliceMade slicePicked
    rw [el1, el2, el3]
    have hp : Builtin.Str.strSliceIndices none none (-1) (⟨z.toArray⟩ : Str).length = (List.range z.length).reverse := by
      show PySem.sliceRange (((⟨z.toArray⟩ : Str).length : Int) - 1) (-1) (-1) = _
      rw [show (⟨z.toArray⟩ : Str).length = z.length from by show z.toArray.size = _; simp, PySem.W.krv_sliceRange, PySem.W.krv_range]
    have hc : (((some (-1 : Int)).getD 1 == 1 && (Builtin.Str.strSliceIndices none none ((some (-1 : Int)).getD 1) (⟨z.toArray⟩ : Str).length).length == (⟨z.toArray⟩ : Str).length) = true) = False := by simp
    have e : ((Builtin.Str.strSliceIndices none none ((some (-1 : Int)).getD 1) (⟨z.toArray⟩ : Str).length).filterMap ((⟨z.toArray⟩ : Str).cps[·]?)) = z.reverse := by
      show ((Builtin.Str.strSliceIndices none none (-1) (⟨z.toArray⟩ : Str).length).filterMap (z.toArray[·]?)) = z.reverse
      rw [hp, List.filterMap_reverse]
      have q := PySem.W.krv_all z.toArray
      rw [List.size_toArray] at q
      rw [q]
    rw [if_neg (by rw [hc]; exact id), e]
    exact ⟨by show z.reverse.toArray.size ≤ _; rw [List.size_toArray, List.length_reverse]; exact ok.len, sv z.reverse, H4, I5.tok _, ⟨_, rfl⟩, q1 _ rfl⟩
/-- sep.join(xs) -/
theorem R_join (ho : PE X o (tE X.K gd Ex mo)) (he : PE X e (tE X.K gd Ex me)) (hs : starEach [e] X.env = [(false, eval e X.env)] := by rfl) (hbase : attributeBase o "join" X.env (eval o X.env) = eval o X.env := by rfl) (hline : (apos.endLine == pos.line) = true := by rfl) :
    PE X (.Call (.Attribute o "join" apos) [e] [] pos) (tE X.K gd Ex (eS2 pJoin mo me)) := by
  refine PE.imp (pe_join ho he hs hbase hline) fun σ H Q h => ?_
  obtain ⟨w, h, aσ, wk, wg, rfl, r, s, o⟩ := h
  refine tE_bind wk wg r s o fun d h1 w1 v s1 k1 g1 r1 sl1 rv o1 => ?_
  obtain ⟨hd, o1⟩ := out_guard o1
  cases d with
  | str z =>
    rw [rep_str] at rv
    obtain ⟨rfl, ok⟩ := rv
    refine ⟨⟨_, rfl⟩, tE_bind k1 g1 r1 sl1 o1 fun d2 h2 w2 v2 s2 k2 g2 r2 sl2 rv2 o2 => ?_⟩
    unfold pJoin at o2
    cases es : (seqOf d2).bind strsOf with
    | none => rw [es] at o2; exact o2.elim
    | some ys =>
      rw [es] at o2
      obtain ⟨hl, o2⟩ := out_guard (a := ret (D.str (joinL z ys))) o2
      obtain ⟨ds, e1, e2⟩ := Option.bind_eq_some_iff.mp es
      obtain ⟨q, xs, rfl, hsq, rs⟩ : ∃ q xs, v2 = .ref q ∧ (SqL X.K w2.H q xs ∨ SqT X.K w2.H q xs) ∧ Reps w2 ds xs := by
        cases d2 with
        | tup _ => cases e1; rw [rep_tup_iff] at rv2; obtain ⟨q, xs, rfl, t, r⟩ := rv2; exact ⟨q, xs, rfl, .inr (k2 ▸ t.sq), r⟩
        | lst _ => cases e1; rw [rep_lst_iff] at rv2; obtain ⟨q, xs, rfl, t, r⟩ := rv2; exact ⟨q, xs, rfl, .inl (k2 ▸ t.sq), r⟩
        | _ => cases e1
      obtain ⟨ex, oks⟩ := strs_reps rs e2
      subst ex
      have hlen : (ys.map fun y => (⟨y.toArray⟩ : Str)).map (·.length) = ys.map (·.length) := by
        rw [List.map_map]
        apply List.map_congr_left
        intro y _
        show y.toArray.size = y.length
        simp
      refine ⟨_, q, ys.map fun y => ⟨y.toArray⟩, rfl, rfl, by rw [List.map_map]; exact hsq, ?_, ?_⟩
      · rw [hlen, List.length_map]
        have e : (⟨z.toArray⟩ : Str).length = z.length := by show z.toArray.size = _; simp
        rw [e]
        exact Nat.le_trans hl (by decide)
      · rw [join_is]
        refine out_val o2 r2 ?_
        rw [rep_str]
        refine ⟨rfl, Nat.le_trans (joinL_len z ys) (Nat.le_trans hl (by decide)), fun c hc => ?_⟩
        rcases joinL_mem hc with h | ⟨y, hy, h⟩
        · exact ok.ok c h
        · exact (oks y hy).ok c h
  | _ => cases hd
/-- how often a sign stands in a text -/
theorem R_count (ho : PE X o (tE X.K gd Ex mo)) (he : PE X e (tE X.K gd Ex me)) (hs : starEach [e] X.env = [(false, eval e X.env)] := by rfl) (hbase : attributeBase o "count" X.env (eval o X.env) = eval o X.env := by rfl) (hline : (apos.endLine == pos.line) = true := by rfl) :
    PE X (.Call (.Attribute o "count" apos) [e] [] pos) (tE X.K gd Ex (eS2 pCount mo me)) := by
  refine PE.imp (pe_m1 F.slot_str_count F.type_str_count mt_count ho he hs hbase hline) fun σ H Q h => ?_
  obtain ⟨w, h, aσ, wk, wg, rfl, r, s, o⟩ := h
  refine tE_bind wk wg r s o fun d h1 w1 v s1 k1 g1 r1 sl1 rv o1 => ?_
  obtain ⟨hd, o1⟩ := out_guard o1
  cases d with
  | str z =>
    rw [rep_str] at rv
    obtain ⟨rfl, ok⟩ := rv
    refine ⟨⟨_, rfl⟩, tE_bind k1 g1 r1 sl1 o1 fun d2 h2 w2 v2 s2 k2 g2 r2 sl2 rv2 o2 => ?_⟩
    match d2, rv2, o2 with
    | .str [c], rv2, o2 =>
      rw [rep_str] at rv2
      obtain ⟨rfl, ok2⟩ := rv2
      refine ⟨_, ⟨#[c]⟩, rfl, rfl, ?_⟩
      rw [count_is1]
      exact out_val (show Out w2 Ex (ret (D.int (z.count c)) h2) _ from o2) r2 (by rw [rep_int])
    | .str [], _, o2 => exact o2.elim
    | .str (_ :: _ :: _), _, o2 => exact o2.elim
    | .non, _, o2 => exact o2.elim
    | .bl _, _, o2 => exact o2.elim
    | .int _, _, o2 => exact o2.elim
    | .tup _, _, o2 => exact o2.elim
    | .lst _, _, o2 => exact o2.elim
    | .dct _ _, _, o2 => exact o2.elim
    | .obj _ _ _, _, o2 => exact o2.elim
    | .ref _, _, o2 => exact o2.elim
  | _ => cases hd
end
end Cf
set_option Elab.async false
set_option linter.all false
set_option maxRecDepth 100000
set_option maxHeartbeats 2000000
/-! CfQ: a written dict from texts to numbers. -/
namespace Cf
open PySem PySem.Spec PyProof.Rows L2

/-- the entries of a written dict, as a table -/
def tabE : List DictEntry → Option (List (List Nat × Int))
  | [] => some []
  | e :: r => match e.key, e.val, e.refKey with
    | .str x _, .int i _, false => (tabE r).map ((x.cps.toList, i) :: ·)
    | _, _, _ => none
theorem isStr_cps (x z : Str) (t : Tok) : (Value.str x t).isStr z = (z.cps.toList == x.cps.toList) := by
  rw [show (Value.str x t).isStr z = Value.isStrOf z (.str x t) from PySem.W.isStr_of z (.str x t)]
  rw [Bool.eq_iff_iff]
  constructor
  · intro h
    obtain ⟨u, e⟩ := Value.isStrOf_shape (x := z) (v := .str x t) h
    cases e
    simp
  · intro h
    have e : z.cps.toList = x.cps.toList := by simpa using h
    have e2 : z = x := by
      obtain ⟨a⟩ := z; obtain ⟨b⟩ := x
      congr 1
      exact Array.ext' e
    subst e2
    simp [Value.isStrOf]
theorem tabE_look : ∀ {es : List DictEntry} {t : List (List Nat × Int)} (z : Str), tabE es = some t → (es.any (·.refKey) = false) ∧
    match t.lookup z.cps.toList with
    | some i => ∃ e tk, es.find? (·.key.isStr z) = some e ∧ e.val = .int i tk
    | none => es.find? (·.key.isStr z) = none
  | [], t, z, h => by cases h; exact ⟨rfl, rfl⟩
  | e :: r, t, z, h => by
    unfold tabE at h
    split at h
    · rename_i x tk i ti hk hv hr
      obtain ⟨t', e1, e2⟩ := Option.map_eq_some_iff.mp h
      subst e2
      obtain ⟨ih1, ih2⟩ := tabE_look z e1
      refine ⟨by rw [List.any_cons, hr, ih1]; rfl, ?_⟩
      rw [List.lookup_cons, List.find?_cons]
      have q : e.key.isStr z = (z.cps.toList == x.cps.toList) := by
        rw [hk]; exact isStr_cps x z tk
      rw [q]
      cases hb : z.cps.toList == x.cps.toList with
      | true => exact ⟨_, ti, rfl, hv⟩
      | false => exact ih2
    · cases h
structure TabD (K : PySem.W.Frag) (w : World) (d : Addr) (t : List (List Nat × Int)) : Prop where
  kd : ∃ es n, KDict K w d es n ∧ tabE es.toList = some t
theorem TabD.look {K : PySem.W.Frag} {w : World} {d : Addr} {t : List (List Nat × Int)} (T : TabD K w d t) (z : Str) : ∃ es n r, KDict K w d es n ∧ PySem.W.nsIn K d z = some r ∧ r.isSome = (t.lookup z.cps.toList).isSome ∧ ∀ i, t.lookup z.cps.toList = some i → ∃ tk, r = some (.int i tk) := by
  obtain ⟨es, n, D, e⟩ := T.kd
  obtain ⟨h1, h2⟩ := tabE_look z e
  have hn : PySem.W.nsIn K d z = match es.toList.find? (·.key.isStr z) with
      | some e => some (some e.val)
      | none => if es.toList.any (·.refKey) then none else some none := by
    unfold PySem.W.nsIn
    rw [D.at_] <;> rfl
  cases hl : t.lookup z.cps.toList with
  | some i =>
    rw [hl] at h2
    obtain ⟨en, tk, h3, h4⟩ := h2
    rw [h3] at hn
    exact ⟨es, n, some en.val, D, hn, rfl, fun j hj => by cases hj; exact ⟨tk, by rw [h4]⟩⟩
  | none =>
    rw [hl] at h2
    rw [h2, h1] at hn
    exact ⟨es, n, none, D, hn, rfl, fun j hj => by cases hj⟩
section
variable {X : Cx} {gd : Gd} {Ex : XK} {e : Expr} {me : E} {x : Str} {d : Addr} {t : List (List Nat × Int)} {p pos : Pos}
theorem R_notInTab (T : TabD X.K X.w d t) (hg : Gl X x) (hm : X.mg x = some (.ref d)) (he : PE X e (tE X.K gd Ex me)) (hd : (x == ("__debug__" : Str)) = false) (hmk : behindInMarks .NotIn (.Name x p) = false) : PE X (.Compare e [.NotIn] [.Name x p] pos) (tE X.K gd Ex (e1 (pNotInTab t) me)) := by
  obtain ⟨es, n, D, _⟩ := T.kd
  refine PE.imp (pe_cmpR (op_notIn_kd D) he (pe_glob (v := .ref d) hg hm rfl hd) hmk) fun σ H Q h => ?_
  obtain ⟨w, h, aσ, wk, wg, rfl, r, s, o⟩ := h
  refine tE_bind wk wg r s o fun dv h1 w1 v s1 k1 g1 r1 sl1 rv o1 => ?_
  cases dv with
  | str z =>
    rw [rep_str] at rv
    obtain ⟨rfl, ok⟩ := rv
    obtain ⟨_, _, r0, _, e1, e2, _⟩ := T.look ⟨z.toArray⟩
    refine ⟨_, r0, rfl, rfl, e1, out_val (show Out w1 Ex (ret (Cf.D.bl (!(t.lookup z).isSome)) h1) _ from o1) r1 ?_⟩
    rw [rep_bl, e2]
  | _ => exact o1.elim
theorem R_inTab (T : TabD X.K X.w d t) (hg : Gl X x) (hm : X.mg x = some (.ref d)) (he : PE X e (tE X.K gd Ex me)) (hd : (x == ("__debug__" : Str)) = false) (hmk : behindInMarks .In (.Name x p) = false) : PE X (.Compare e [.In] [.Name x p] pos) (tE X.K gd Ex (e1 (pInTab t) me)) := by
  obtain ⟨es, n, D, _⟩ := T.kd
  refine PE.imp (pe_cmpR (op_in_kd D) he (pe_glob (v := .ref d) hg hm rfl hd) hmk) fun σ H Q h => ?_
  obtain ⟨w, h, aσ, wk, wg, rfl, r, s, o⟩ := h
  refine tE_bind wk wg r s o fun dv h1 w1 v s1 k1 g1 r1 sl1 rv o1 => ?_
  cases dv with
  | str z =>
    rw [rep_str] at rv
    obtain ⟨rfl, ok⟩ := rv
    obtain ⟨_, _, r0, _, e1, e2, _⟩ := T.look ⟨z.toArray⟩
    refine ⟨_, r0, rfl, rfl, e1, out_val (show Out w1 Ex (ret (Cf.D.bl (t.lookup z).isSome) h1) _ from o1) r1 ?_⟩
    rw [rep_bl, e2]
  | _ => exact o1.elim
theorem T_notInTab (T : TabD X.K X.w d t) (hg : Gl X x) (hm : X.mg x = some (.ref d)) (he : PE X e (tE X.K gd Ex me)) (hd : (x == ("__debug__" : Str)) = false) (hmk : behindInMarks .NotIn (.Name x p) = false) : PT X (.Compare e [.NotIn] [.Name x p] pos) (tT X.K gd Ex (tOf (e1 (pNotInTab t) me))) := by
  obtain ⟨es, n, D, _⟩ := T.kd
  refine PT.imp (pt_cmpR (op_notIn_kd D) he (pe_glob (v := .ref d) hg hm rfl hd) hmk) fun σ H Q h => ?_
  obtain ⟨w, h, aσ, wk, wg, rfl, r, s, o⟩ := h
  have o : Out w Ex ((me aσ >>= fun x => pNotInTab t x >>= pTruth) h) (fun b _ w' => Q b w'.H) := by
    have z : (tOf (e1 (pNotInTab t) me) aσ) h = (me aσ >>= fun x => pNotInTab t x >>= pTruth) h := by
      show ((me aσ h).next fun x => pNotInTab t x).next pTruth = (me aσ h).next fun x h1 => (pNotInTab t x h1).next pTruth
      cases me aσ h <;> rfl
    rw [← z]; exact o
  unfold L2.tTest L2.tOp
  refine tE_bind wk wg r s o fun dv h1 w1 v s1 k1 g1 r1 sl1 rv o1 => ?_
  cases dv with
  | str z =>
    rw [rep_str] at rv
    obtain ⟨rfl, ok⟩ := rv
    obtain ⟨_, _, r0, _, e1, e2, _⟩ := T.look ⟨z.toArray⟩
    refine ⟨_, r0, rfl, rfl, e1, _, rfl, ?_⟩
    have q := out_ret (show Out w1 Ex (ret (!(t.lookup z).isSome) h1) _ from o1) r1
    rw [e2]
    exact q
  | _ => exact o1.elim
theorem ix_kd {es : Array DictEntry} {n : Nat} (D : KDict X.K X.w d es n) : IxR X (fun x y H Q => ∃ (z : Str) (u0 : Value) (v0 : V), x = .ref d ∧ y = .str z ∧ PySem.W.nsIn X.K d z = some (some u0) ∧ RelV v0 u0 ∧ Q v0 H) := by
  intro value slice pins s σ H x y v u Q I rx ry h hs
  have h' := h
  obtain ⟨z, u0, v0, rfl, rfl, e, r, q⟩ := h'
  have rx' := rx
  cases rx'
  exact tail_any (ops := [.ref d, u]) (kd_type D I) (PySem.slot_dict_getitem.lookup) (op_item_kd D pins s σ H _ _ _ u Q I rx ry h) hs
theorem R_getTab (T : TabD X.K X.w d t) (hg : Gl X x) (hm : X.mg x = some (.ref d)) (he : PE X e (tE X.K gd Ex me)) (hd : (x == ("__debug__" : Str)) = false) (hs : PlainIx e) : PE X (.Subscript (.Name x p) e pos) (tE X.K gd Ex (e1 (pGetTab t) me)) := by
  obtain ⟨es, n, D, _⟩ := T.kd
  refine PE.imp (pe_ix (ix_kd D) (pe_glob (v := .ref d) hg hm rfl hd) he hs) fun σ H Q h => ?_
  obtain ⟨w, h, aσ, wk, wg, rfl, r, s, o⟩ := h
  unfold L2.tOp L2.tC
  refine tE_bind wk wg r s o fun dv h1 w1 v s1 k1 g1 r1 sl1 rv o1 => ?_
  cases dv with
  | str z =>
    rw [rep_str] at rv
    obtain ⟨rfl, ok⟩ := rv
    obtain ⟨_, _, r0, _, e1, e2, e3⟩ := T.look ⟨z.toArray⟩
    obtain ⟨dd, e4, o2⟩ := out_opt (show Out w1 Ex ((ofOpt ((t.lookup z).map Cf.D.int) : M Cf.D) h1) _ from o1)
    obtain ⟨i, e5, e6⟩ := Option.map_eq_some_iff.mp e4
    subst e6
    obtain ⟨tk, rfl⟩ := e3 i e5
    exact ⟨_, _, .int i, rfl, rfl, e1, ⟨tk, rfl⟩, out_val o2 r1 (by rw [rep_int])⟩
  | _ => exact o1.elim
end
end Cf
set_option Elab.async false
set_option linter.all false
set_option maxRecDepth 100000
set_option maxHeartbeats 2000000
/-! CfW: short words for the printed derivations. -/
namespace Cf
open PySem PySem.Spec PyProof.Rows L2

section
variable {X : Cx} {gd : Gd} {Ex : XK} {a b c : Expr} {ma mb mc : E} {mt : T} {pos p2 : Pos} {x : Str}
theorem R_gstr {z : String} (hg : Gl X x) (hm : ∃ t, X.mg x = some (.str (Str.ofString z) t)) (h : okL (cps z) = true := by decide +kernel) (hd : (x == ("__debug__" : Str)) = false := by decide) : PE X (.Name x pos) (tE X.K gd Ex (eC (.str (cps z)))) := by
  obtain ⟨t, e⟩ := hm
  exact R_glob (v := .str (Str.ofString z)) hg e ⟨t, rfl⟩ (fun w => by rw [rep_str]; exact ⟨by rw [str_cps]; rfl, okL_of h⟩) hd
theorem R_gint {i : Int} (hg : Gl X x) (hm : ∃ t, X.mg x = some (.int i t)) (hd : (x == ("__debug__" : Str)) = false := by decide) : PE X (.Name x pos) (tE X.K gd Ex (eC (.int i))) := by
  obtain ⟨t, e⟩ := hm
  exact R_glob (v := .int i) hg e ⟨t, rfl⟩ (fun w => by rw [rep_int]) hd
theorem R_neg {i : Int} {j : Nat} : PE X (.UnaryOp .USub (.Constant (.int i) j p2) pos) (tE X.K gd Ex (eC (.int (-i)))) :=
  PE.imp (pe_un un_neg pe_int) fun σ H Q h => by
    obtain ⟨w, h, aσ, wk, wg, rfl, r, s, o⟩ := h
    exact ⟨i, rfl, out_val o r (by rw [rep_int])⟩
theorem T_isN {j : Nat} {p : Pos} (ha : PE X a (tE X.K gd Ex ma)) : PT X (.Compare a [.Is] [.Constant .none j p] pos) (tT X.K gd Ex (tOf (e1 pIsN ma))) := by
  refine PT.imp (pt_cmp (pc_isN ha) rfl) fun σ H Q h => ?_
  obtain ⟨w, h, aσ, wk, wg, rfl, r, s, o⟩ := h
  have o : Out w Ex ((ma aσ >>= fun x => pIsN x >>= pTruth) h) (fun b _ w' => Q b w'.H) := by
    have z : (tOf (e1 pIsN ma) aσ) h = (ma aσ >>= fun x => pIsN x >>= pTruth) h := by
      show ((ma aσ h).next fun x => pIsN x).next pTruth = (ma aσ h).next fun x h1 => (pIsN x h1).next pTruth
      cases ma aσ h <;> rfl
    rw [← z]; exact o
  unfold L2.tB L2.tIsN
  refine tE_bind wk wg r s o fun d h1 w1 v s1 k1 g1 r1 sl1 rv o1 => ?_
  refine ⟨_, rfl, ?_⟩
  rw [RelV.isNon rv]
  exact out_ret (show Out w1 Ex ((ret (isNon d) : M Bool) h1) _ from (by cases d <;> exact o1)) r1
/-- a chain of comparisons as a test -/
theorem T_val {e : Expr} {me : E} (he : PE X e (tE X.K gd Ex me)) (h : ∀ whole, isTrue e X.env whole = (do let v ← whole; standAt e.pos; holding [v] (truthy v)) := by intro _; rfl) : PT X e (tT X.K gd Ex (tOf me)) := R_tru he h
/-- nothing is promised -/
theorem S_no {st : Stmt} : PS X st (tS X.K gd Ex fun _ _ => .no) := ⟨fun pins s σ H D I h => by
  obtain ⟨w0, w1, w, h, aσ, fr, st, wk, wg, e, r, sl, o⟩ := h
  exact o.elim⟩
theorem SS_no {st : List Stmt} : PSs X st (tS X.K gd Ex fun _ _ => .no) := ⟨fun pins s σ H D I h => by
  obtain ⟨w0, w1, w, h, aσ, fr, st, wk, wg, e, r, sl, o⟩ := h
  exact o.elim⟩
end
end Cf
set_option Elab.async false
set_option linter.all false
set_option maxRecDepth 100000
set_option maxHeartbeats 2000000
/-! CfO: lists of a def's own that grow. -/
namespace Cf
open PySem PySem.Spec PyProof.Rows L2

theorem Own.inN {w : Wd} {d : D} {v : V} {t : List Addr} (h : Own w d v t) : ∀ a ∈ t, w.N a := by
  cases h with
  | lst h n r => intro b hb; rw [List.mem_singleton.mp hb]; exact n
theorem Own.step {w w' : Wd} (a : Step w w') {d : D} {v : V} {t : List Addr} (h : Own w d v t) (k : ∀ b ∈ t, w'.H b = w.H b ∧ w'.N b) : Own w' d v t := by
  cases h with
  | lst h n r =>
    obtain ⟨k1, k2⟩ := k _ (List.mem_singleton.mpr rfl)
    exact .lst (k1.trans h) k2 (Reps.step a _ _ r)
theorem free_new {w0 w : Wd} {h : List O} (fr : Fr w0 w) (r : RelH w h) {p : Addr} (hp : w.H p = none) : Free w0 p := by
  refine ⟨fun z => ?_, fun o e n t => ?_⟩
  · obtain ⟨⟨u, e, _⟩, _⟩ := r.own p (fr.n p z)
    rw [hp] at e; cases e
  · obtain ⟨e1, _⟩ := fr.keep p o e n t
    rw [hp] at e1; cases e1
theorem SlS.tidy {w0 w : Wd} {σ : L2.St} {aσ : S} (s : SlS w0 w σ aσ) : ∃ T : Nat → List Addr, (∀ (i : Nat) (d : D), aσ[i]? = some (.own d) → ∃ v, σ[i]? = some (some v) ∧ Own w d v (T i)) ∧ (∀ i j, i ≠ j → ∀ a ∈ T i, a ∉ T j) ∧ (∀ i, (T i).Nodup ∧ ∀ a ∈ T i, Free w0 a) ∧ ∀ i, ∀ a ∈ T i, w.N a := by
  obtain ⟨T, h1, h2, h3⟩ := s.own
  refine ⟨fun i => match aσ[i]? with | some (.own _) => T i | _ => [], fun i d e => ?_, fun i j n a ha hb => ?_, fun i => ?_, fun i a ha => ?_⟩
  · obtain ⟨v, e1, e2⟩ := h1 i d e
    refine ⟨v, e1, ?_⟩
    show Own w d v (match aσ[i]? with | some (.own _) => T i | _ => [])
    rw [e]; exact e2
  · have sub : ∀ {i : Nat} {a : Addr}, a ∈ (match aσ[i]? with | some (.own _) => T i | _ => []) → a ∈ T i := by
      intro i a m
      split at m
      · exact m
      · cases m
    exact h2 i j n a (sub ha) (sub hb)
  · show List.Nodup (match aσ[i]? with | some (.own _) => T i | _ => []) ∧ ∀ a ∈ (match aσ[i]? with | some (.own _) => T i | _ => []), Free w0 a
    split
    · exact h3 i
    · exact ⟨List.nodup_nil, fun _ m => nomatch m⟩
  · have ha : a ∈ (match aσ[i]? with | some (.own _) => T i | _ => []) := ha
    split at ha
    · rename_i d e
      obtain ⟨v, _, e2⟩ := h1 i _ e
      exact e2.inN a ha
    · cases ha
theorem set_val {aσ : S} {i j : Nat} {x : Sl} {d : D} (hx : ∀ d, x ≠ .val d) (e : (aσ.set i x)[j]? = some (.val d)) : j ≠ i ∧ aσ[j]? = some (.val d) := by
  by_cases hj : i = j
  · subst hj
    have hlt : i < aσ.length := by
      have := (List.getElem?_eq_some_iff.mp e).1
      rw [List.length_set] at this; exact this
    rw [List.getElem?_set_self hlt] at e
    exact absurd (Option.some.inj e) (hx d)
  · rw [List.getElem?_set_ne hj] at e
    exact ⟨Ne.symm hj, e⟩
/-- a slot gets a list of its own -/
theorem SlS.newOwn {w0 w : Wd} {h : List O} {σ : L2.St} {aσ : S} {i : Nat} {p : Addr} {ds : List D} {xs : List V} (s : SlS w0 w σ aσ) (fr : Fr w0 w) (r : RelH w h) (hp : w.H p = none) (rs : Reps w ds xs) :
    SlS w0 (w.own p (.lst xs)) (σ.set i (some (.ref p))) (aσ.set i (.own (.lst ds))) := by
  have xd := xd_own (o := .lst xs) r hp
  have ow : Own (w.own p (.lst xs)) (.lst ds) (.ref p) [p] := .lst upd_same (.inr rfl) (Reps.step xd.step _ _ rs)
  obtain ⟨T, h1, h2, h3, h4⟩ := s.tidy
  have sl := s.sl.xd xd r
  have nN : ¬ w.N p := fun z => by
    obtain ⟨⟨u, e, _⟩, _⟩ := r.own p z
    rw [hp] at e; cases e
  refine ⟨by rw [List.length_set, List.length_set]; exact s.len, fun j d e => ?_, fun j => if j = i then [p] else T j, fun j d e => ?_, fun j k n a ha hb => ?_, fun j => ?_⟩
  · obtain ⟨hj, e'⟩ := set_val (fun d z => by cases z) e
    obtain ⟨v, e1, e2⟩ := sl.val j d e'
    exact ⟨v, by rw [List.getElem?_set_ne (Ne.symm hj)]; exact e1, e2⟩
  · by_cases hj : j = i
    · subst hj
      have hlt : j < aσ.length := by
        have := (List.getElem?_eq_some_iff.mp e).1
        rw [List.length_set] at this; exact this
      rw [List.getElem?_set_self hlt] at e
      cases e
      refine ⟨.ref p, List.getElem?_set_self (by rw [s.len]; exact hlt), ?_⟩
      show Own _ _ _ (if j = j then [p] else T j)
      rw [if_pos rfl]; exact ow
    · rw [List.getElem?_set_ne (Ne.symm hj)] at e
      obtain ⟨v, e1, e2⟩ := h1 j d e
      refine ⟨v, by rw [List.getElem?_set_ne (Ne.symm hj)]; exact e1, ?_⟩
      show Own _ _ _ (if j = i then [p] else T j)
      rw [if_neg hj]; exact e2.xd xd r.own
  · have ma : a ∈ (if j = i then [p] else T j) := ha
    have mb : a ∈ (if k = i then [p] else T k) := hb
    by_cases hj : j = i
    · rw [if_pos hj, List.mem_singleton] at ma
      rw [if_neg (fun z => n (hj.trans z.symm)), ma] at mb
      exact nN (h4 k p mb)
    · rw [if_neg hj] at ma
      by_cases hk : k = i
      · rw [if_pos hk, List.mem_singleton] at mb
        rw [mb] at ma
        exact nN (h4 j p ma)
      · rw [if_neg hk] at mb
        exact h2 j k n a ma mb
  · show (if j = i then [p] else T j).Nodup ∧ ∀ a ∈ (if j = i then [p] else T j), Free w0 a
    by_cases hj : j = i
    · rw [if_pos hj]
      exact ⟨List.pairwise_singleton _ _, fun a m => by rw [List.mem_singleton] at m; subst m; exact free_new fr r hp⟩
    · rw [if_neg hj]; exact h3 j
theorem Fr.own {w0 w : Wd} {h : List O} (fr : Fr w0 w) (r : RelH w h) {p : Addr} {o : HO} (hp : w.H p = none) : Fr w0 (w.own p o) :=
  ⟨fr.k, fr.g, fun b z => .inl (fr.n b z), fr.pre, fun b u e n t => let ⟨e1, n1⟩ := fr.keep b u e n t; ⟨by show upd w.H p o b = _; rw [upd_ne (ne_of_none e1 hp)]; exact e1, n1⟩⟩
theorem Fr.wr {w0 w : Wd} (fr : Fr w0 w) {p : Addr} {o : HO} (f : Free w0 p) : Fr w0 (w.put p o) :=
  ⟨fr.k, fr.g, fr.n, fr.pre, fun b u e n t => let ⟨e1, n1⟩ := fr.keep b u e n t; ⟨by
    show upd w.H p o b = _
    rw [upd_ne (fun z => by subst z; exact f.2 u e n t)]; exact e1, n1⟩⟩
/-- what stands in an owned slot -/
theorem SlS.ownAt {w0 w : Wd} {σ : L2.St} {aσ : S} {i : Nat} {ds : List D} (s : SlS w0 w σ aσ) (e : Cf.ownAt aσ i = some ds) :
    ∃ a xs, aσ[i]? = some (.own (.lst ds)) ∧ σ[i]? = some (some (.ref a)) ∧ w.H a = some (.lst xs) ∧ w.N a ∧ Reps w ds xs ∧ Free w0 a ∧
      ∀ ys es, Reps w es ys → SlS w0 (w.put a (.lst ys)) σ (aσ.set i (.own (.lst es))) := by
  have e2 : aσ[i]? = some (.own (.lst ds)) := by
    unfold Cf.ownAt at e
    split at e
    · rename_i e1; cases e; exact e1
    · cases e
  obtain ⟨T, h1, h2, h3, h4⟩ := s.tidy
  obtain ⟨v, e3, ow⟩ := h1 i _ e2
  generalize eT : T i = Ti at ow
  cases ow with
  | @lst _ a xs hH n rs =>
    have hai : a ∈ T i := by rw [eT]; exact List.mem_singleton.mpr rfl
    refine ⟨a, xs, e2, e3, hH, n, rs, (h3 i).2 a hai, fun ys es rs2 => ?_⟩
    have stp := step_wr (o := .lst ys) n
    refine ⟨by rw [List.length_set]; exact s.len, fun j d e => ?_, T, fun j d e => ?_, h2, h3⟩
    · obtain ⟨hj, e'⟩ := set_val (fun d z => by cases z) e
      obtain ⟨u, q1, q2⟩ := s.val j d e'
      exact ⟨u, q1, Rep.step stp _ _ q2⟩
    · by_cases hj : j = i
      · subst hj
        have hlt : j < aσ.length := (List.getElem?_eq_some_iff.mp e2).1
        rw [List.getElem?_set_self hlt] at e
        cases e
        refine ⟨.ref a, e3, ?_⟩
        rw [eT]
        exact .lst upd_same n (Reps.step stp _ _ rs2)
      · rw [List.getElem?_set_ne (Ne.symm hj)] at e
        obtain ⟨u, q1, q2⟩ := h1 j d e
        refine ⟨u, q1, q2.step stp fun b hb => ⟨?_, h4 j b hb⟩⟩
        show upd w.H a _ b = w.H b
        exact upd_ne (fun z => by subst z; exact h2 j i hj b hb hai)
/-- an owned slot is let stand for good -/
theorem SlS.freeze {w0 w : Wd} {h : List O} {σ : L2.St} {aσ : S} {i : Nat} {ds : List D} (s : SlS w0 w σ aσ) (fr : Fr w0 w) (r : RelH w h) (e : Cf.ownAt aσ i = some ds) :
    ∃ w', w'.H = w.H ∧ w'.K = w.K ∧ w'.gd = w.gd ∧ Fr w0 w' ∧ Step w w' ∧ RelH w' h ∧ SlS w0 w' σ (aσ.set i (.val (.lst ds))) := by
  obtain ⟨a, xs, e2, e3, hH, n, rs, fa, _⟩ := s.ownAt e
  obtain ⟨T, h1, h2, h3, h4⟩ := s.tidy
  obtain ⟨v, e3', ow⟩ := h1 i _ e2
  have hai : a ∈ T i := by
    rw [e3] at e3'
    cases e3'
    generalize eT : T i = Ti at ow
    cases ow
    exact List.mem_singleton.mpr rfl
  obtain ⟨st, r'⟩ := r.drop (N := fun b => w.N b ∧ b ≠ a) (fun b z => z.1)
  refine ⟨{ w with N := fun b => w.N b ∧ b ≠ a }, rfl, rfl, rfl, ⟨fr.k, fr.g, fun b z => ⟨fr.n b z, fun q => by subst q; exact fa.1 z⟩, fr.pre, fr.keep⟩, st, r', by rw [List.length_set]; exact s.len, fun j d e => ?_, T, fun j d e => ?_, h2, h3⟩
  · by_cases hj : j = i
    · subst hj
      have hlt : j < aσ.length := (List.getElem?_eq_some_iff.mp e2).1
      rw [List.getElem?_set_self hlt] at e
      cases e
      refine ⟨.ref a, e3, ?_⟩
      rw [rep_lst_iff]
      exact ⟨a, xs, rfl, .inl ⟨.inl hH, fun z => z.2 rfl, (r.own a n).2⟩, Reps.step st _ _ rs⟩
    · rw [List.getElem?_set_ne (Ne.symm hj)] at e
      obtain ⟨u, q1, q2⟩ := s.val j d e
      exact ⟨u, q1, Rep.step st _ _ q2⟩
  · obtain ⟨hj, e'⟩ := set_own (fun d z => by cases z) e
    obtain ⟨u, q1, q2⟩ := h1 j d e'
    exact ⟨u, q1, q2.step st fun b hb => ⟨rfl, h4 j b hb, fun z => by subst z; exact h2 j i hj b hb hai⟩⟩

section
variable {X : Cx} {gd : Gd} {Ex : XK} {e : Expr} {es : List Expr} {me : E} {mes : List E} {ms : Ms} {pos p1 p2 apos cpos : Pos} {st : Stmt} {i : Nat} {x : Str}
/-- x = [..], a list that grows -/
theorem S_own (hN : X.N.Nodup) (hi : X.N[i]? = some x) (hx : Loc X.env.scope x) (he : PA X es (tA X.K gd Ex mes)) (hz : mes.length ≤ 1000 := by decide) (hs : swapsWith (.List es p2) (some (.Name x p1)) pos.line X.env = pure false := by rfl)
    (hf : X.fn x = true ∨ X.env.scope.names.lookup x = some .local := by first | exact .inl rfl | exact .inr rfl | assumption) : PS X (.Assign [.Name x p1] (.List es p2) pos) (tS X.K gd Ex (sOwn i mes)) := by
  refine PS.imp (ps_set hN hi hx (pe_lst he) hs hf) fun D σ H h => ?_
  obtain ⟨w0, w1, w, h, aσ, fr, st, wk, wg, rfl, r, sl, o⟩ := h
  have o : OutS w0 w1 Ex D ((evs mes aσ h).stmt fun ds h' => .nx (aσ.set i (.own (.lst ds))) h') := o
  have o : OutS w0 w1 Ex D ((evs mes aσ h).stmt fun ds h' => if ds.length = mes.length then .nx (aσ.set i (.own (.lst ds))) h' else .no) := by
    cases ev : evs mes aσ h with
    | ok ds h1 =>
      rw [ev] at o
      show OutS w0 w1 Ex D (if ds.length = mes.length then _ else _)
      rw [if_pos (evs_len ev)]; exact o
    | er c vs h1 => rw [ev] at o; exact o
    | no => rw [ev] at o; exact o
  unfold L2.tAsg L2.tLst
  refine tS_A fr st wk wg r sl o fun ds h1 w' vs f1 s1 k1 g1 r1 sl1 rv o1 => ?_
  by_cases hl : ds.length = mes.length
  · rw [if_pos hl] at o1
    exact ⟨by rw [rv.length, hl]; exact Nat.le_trans hz (by decide), fun p hp => o1 (w'.own p (.lst vs)) _ (f1.own r1 hp) (s1.trans (xd_own r1 hp).step) (r1.ownNew hp lst_notbl) (sl1.newOwn f1 r1 hp rv)⟩
  · rw [if_neg hl] at o1; exact o1.elim
/-- x.append(e) -/
theorem S_app (hN : X.N[i]? = some x) (hv : Vis X.env.scope x) (he : PE X e (tE X.K gd Ex me)) (hd : (x == ("__debug__" : Str)) = false := by decide) (hcd : (x == ("__classdict__" : Str)) = false := by decide)
    (hs : swapsWith (.Call (.Attribute (.Name x p1) "append" apos) [e] [] cpos) none pos.line X.env = pure false := by rfl)
    (hbase : attributeBase (.Name x p1) "append" X.env (eval (.Name x p1) X.env) = eval (.Name x p1) X.env := by rfl)
    (hfew : ((backTo cpos (starEach [e] X.env)).all (fun x => !x.1) && (backToKw cpos (keywordEach [] X.env)).all (fun x => x.1.isSome)
      && decide ([e].length + ([] : List Keyword).length + (if ([] : List Keyword).isEmpty then 0 else 1) < 30)) = true := by rfl)
    (hline : (apos.endLine == cpos.line) = true := by rfl) (hs2 : starEach [e] X.env = (false, eval e X.env) :: starEach [] X.env := by rfl) (hplain : (backTo cpos (starEach [] X.env)).any (·.1) = false := by rfl) :
    PS X (.Expr (.Call (.Attribute (.Name x p1) "append" apos) [e] [] cpos) pos) (tS X.K gd Ex (sApp i me)) := by
  refine PS.imp (ps_expr (pe_bm PySem.F.plainAttrs_list PySem.F.slot_list_append PySem.F.type_list_append mt_append (pe_var hN hv hd hcd) (A_cons he A_nil hs2) hbase hfew hline hs2 hplain) hs) fun D σ H h => ?_
  obtain ⟨w0, w1, w, h, aσ, fr, st, wk, wg, rfl, r, sl, o⟩ := h
  cases eo : ownAt aσ i with
  | none => exact (show OutS w0 w1 Ex D (sApp i me aσ h) from o) |> fun o => by unfold sApp at o; rw [eo] at o; exact o.elim
  | some ds =>
    have o : OutS w0 w1 Ex D (sApp i me aσ h) := o
    unfold sApp at o
    rw [eo] at o
    obtain ⟨a, xs, e2, e3, hH, n, rs, fa, _⟩ := sl.ownAt eo
    refine ⟨_, e3, .inl ⟨rfl, _, SqL.of hH⟩, ?_⟩
    have o : OutS w0 w1 Ex D ((evs [me] aσ h).stmt fun vs h' => match vs with | [d] => if ds.length < LIM then .nx (aσ.set i (.own (.lst (ds ++ [d])))) h' else .no | _ => .no) := by
      have ee : evs [me] aσ h = (me aσ h).next fun d => ret [d] := rfl
      rw [ee]
      cases ev : me aσ h with
      | ok d h1 => rw [ev] at o; exact o
      | er c vs h1 => rw [ev] at o; exact o
      | no => rw [ev] at o; exact o
    refine tS_A fr st wk wg r sl o fun vs h1 w' us f1 s1 k1 g1 r1 sl1 rv o1 => ?_
    match vs, rv, o1 with
    | [d], rv, o1 =>
      have o1 : OutS w0 w1 Ex D (if ds.length < LIM then .nx (aσ.set i (.own (.lst (ds ++ [d])))) h1 else .no) := o1
      rw [Reps] at rv
      obtain ⟨u, us', rfl, ru, rv⟩ := rv
      rw [Reps] at rv
      subst rv
      by_cases hl : ds.length < LIM
      · rw [if_pos hl] at o1
        obtain ⟨a', xs', e2', e3', hH', n', rs', fa', wr⟩ := sl1.ownAt eo
        rw [e3] at e3'
        cases e3'
        refine ⟨a, xs', u, rfl, rfl, hH', by rw [rs'.length]; exact Nat.lt_of_lt_of_le hl (by decide), ?_⟩
        exact o1 (w'.put a (.lst (xs' ++ [u]))) σ (f1.wr fa') (s1.trans (step_wr n')) (r1.wr n' hH' lst_notbl) (wr _ _ (Reps.append rs' (.cons ru .nil)))
      · rw [if_neg hl] at o1; exact o1.elim
    | [], rv, o1 => exact o1.elim
    | _ :: _ :: _, rv, o1 => exact o1.elim
/-- from here on it stands for good -/
theorem S_frz (h : PS X st (tS X.K gd Ex ms)) : PS X st (tS X.K gd Ex (sFrz i ms)) := by
  refine PS.imp h fun D σ H h => ?_
  obtain ⟨w0, w1, w, h, aσ, fr, st, wk, wg, rfl, r, sl, o⟩ := h
  have o : OutS w0 w1 Ex D (sFrz i ms aσ h) := o
  unfold sFrz at o
  cases eo : ownAt aσ i with
  | none => rw [eo] at o; exact o.elim
  | some ds =>
    rw [eo] at o
    obtain ⟨w', eH, eK, eg, f', s', r', sl'⟩ := sl.freeze fr r eo
    exact ⟨w0, w1, w', h, _, f', st.trans s', eK.trans wk, eg.trans wg, eH, r', sl', o⟩
end
end Cf
set_option Elab.async false
set_option linter.all false
set_option maxRecDepth 100000
set_option maxHeartbeats 2000000
/-! CfR: str, f-strings of one part, index, split, extend, chains as tests. -/
namespace Cf
open PySem PySem.Spec PyProof.Rows L2

/-! ### plain Lean: split, index -/
theorem spl_one (c : Nat) : ∀ l acc : List Nat, TL.spl [c] 0 acc l = splitL c acc l
  | [], acc => by rw [TL.spl_nil, splitL]
  | x :: r, acc => by
    by_cases h : x = c
    · subst h
      rw [TL.spl_hit (by simp [TL.pre]), splitL, if_pos rfl]
      exact congrArg _ (spl_one x r [])
    · have e : TL.spl [c] 0 acc (x :: r) = TL.spl [c] 0 (acc ++ [x]) r := by
        show (if TL.pre [c] (x :: r) = true then _ else _) = _
        rw [if_neg (by simp [TL.pre]; exact h)]
      rw [e, splitL, if_neg h]
      exact spl_one c r (acc ++ [x])
theorem split_one (a : List Nat) (c : Nat) (hc : c < 256) : Txt.split ⟨a.toArray⟩ ⟨#[c]⟩ = (splitL c [] a).map fun y => (⟨y.toArray⟩ : Str) := by
  have e := SX.split_S (a := a) (b := [c]) (List.cons_ne_nil _ _) (by simp [hc])
  rw [spl_one] at e
  exact e
theorem splitL_mem (c : Nat) : ∀ (l acc y : List Nat), y ∈ splitL c acc l → y.length ≤ acc.length + l.length ∧ ∀ d ∈ y, d ∈ acc ∨ d ∈ l
  | [], acc, y, h => by
    rw [splitL, List.mem_singleton] at h
    subst h
    exact ⟨Nat.le_add_right _ _, fun d m => .inl m⟩
  | x :: r, acc, y, h => by
    rw [splitL] at h
    by_cases hx : x = c
    · rw [if_pos hx] at h
      rcases List.mem_cons.mp h with e | h
      · subst e
        exact ⟨Nat.le_add_right _ _, fun d m => .inl m⟩
      · obtain ⟨h1, h2⟩ := splitL_mem c r [] y h
        refine ⟨by rw [List.length_nil] at h1; rw [List.length_cons]; omega, fun d m => ?_⟩
        rcases h2 d m with z | z
        · cases z
        · exact .inr (List.mem_cons_of_mem _ z)
    · rw [if_neg hx] at h
      obtain ⟨h1, h2⟩ := splitL_mem c r _ y h
      refine ⟨by rw [List.length_append, List.length_singleton] at h1; rw [List.length_cons]; omega, fun d m => ?_⟩
      rcases h2 d m with z | z
      · rcases List.mem_append.mp z with z | z
        · exact .inl z
        · rw [List.mem_singleton.mp z]; exact .inr List.mem_cons_self
      · exact .inr (List.mem_cons_of_mem _ z)
theorem ixD_is (c : Nat) : ∀ (s : List Nat) (i : Nat), s[i]? = some c → (∀ k, k < i → s[k]? ≠ some c) → ixD c s = some i
  | [], i, e, _ => by simp at e
  | x :: r, 0, e, _ => by
    rw [ixD, if_pos (Option.some.inj e)]
  | x :: r, i + 1, e, h => by
    have hx : x ≠ c := fun z => h 0 (Nat.zero_lt_succ _) (by rw [z]; rfl)
    rw [ixD, if_neg hx, ixD_is c r i (by simpa using e) fun k hk => by
      have := h (k + 1) (by omega)
      simpa using this]
    rfl
theorem ixD_some {c : Nat} : ∀ {s : List Nat} {i : Nat}, ixD c s = some i → s[i]? = some c
  | [], i, e => by cases e
  | x :: r, i, e => by
    rw [ixD] at e
    by_cases hx : x = c
    · rw [if_pos hx] at e; cases e; rw [hx]; rfl
    · rw [if_neg hx] at e
      obtain ⟨j, e1, rfl⟩ := Option.map_eq_some_iff.mp e
      rw [List.getElem?_cons_succ]
      exact ixD_some e1
theorem at_one (s : List Nat) (c i : Nat) : PySem.StrLaws.At ⟨s.toArray⟩ ⟨#[c]⟩ (⟨s.toArray⟩ : Str).length i ↔ s[i]? = some c := by
  unfold PySem.StrLaws.At
  rw [PySem.StrLaws.subAt_eq, sv_len]
  show i + 1 ≤ s.length ∧ ((s.drop i).take 1 == [c]) = true ↔ _
  rw [beq_iff_eq]
  constructor
  · rintro ⟨h1, h2⟩
    rw [List.drop_eq_getElem_cons (by omega), List.take_succ_cons, List.take_zero] at h2
    rw [List.getElem?_eq_getElem (by omega)]
    exact congrArg some (List.cons.inj h2).1
  · intro h
    obtain ⟨h1, h2⟩ := List.getElem?_eq_some_iff.mp h
    refine ⟨h1, ?_⟩
    rw [List.drop_eq_getElem_cons h1, List.take_succ_cons, List.take_zero, h2]
theorem occ_one {s : List Nat} {c i : Nat} (h : ixD c s = some i) : ∃ rest, Builtin.Str.occurrences ⟨s.toArray⟩ ⟨#[c]⟩ 0 (⟨s.toArray⟩ : Str).length 1 = i :: rest := by
  rcases PySem.StrLaws.occ_head ⟨s.toArray⟩ ⟨#[c]⟩ 1 (Nat.le_refl _) with ⟨_, hn⟩ | ⟨j, r, e, h1, h2⟩
  · exact absurd ((at_one s c i).mpr (ixD_some h)) (hn i)
  · have q := ixD_is c s j ((at_one s c j).mp h1) fun k hk z => h2 k hk ((at_one s c k).mpr z)
    rw [h] at q
    cases q
    exact ⟨r, e⟩
theorem strs_rep {w : Wd} : ∀ (ys : List (List Nat)), (∀ y ∈ ys, SOk y) → Reps w (ys.map .str) (ys.map fun y => V.str ⟨y.toArray⟩)
  | [], _ => .nil
  | y :: ys, h => .cons (by rw [rep_str]; exact ⟨rfl, h y List.mem_cons_self⟩) (strs_rep ys fun z m => h z (List.mem_cons_of_mem _ m))

/-- extend by any list -/
theorem list_extendW (l : Addr) (items : Array Value) (n : Nat) (b : Addr) (items2 : Array Value) (n2 : Nat) (sl : Array (Option Value)) (door : ¬(!items.isEmpty && Builtin.List.listTooLong (items.size + items2.size)) = true) (hz : items.size ≤ sizeLine) (hz2 : items.size + items2.size ≤ sizeLine + 1) :
    Meets (Builtin.«list.extend» ⟨[.ref l, .ref b], []⟩) (fun _ R s => s.heap.get? l = some { cls := .type "list", dict := none, data := .seq items n, slots := #[] } ∧ s.heap.get? b = some { cls := .type "list", dict := none, data := .seq items2 n2, slots := sl } ∧
      R (.ok (.ret Value.none)) { s with heap := s.heap.update l (Obj.mapSeq fun x => x ++ items2), toks := s.toks }) :=
  .of_wp fun prog w A R s h => by
    obtain ⟨hp, g, d, tk, os⟩ := s
    obtain ⟨hl, hb, h⟩ := h
    have f1 := AutoSeq1.idx_int
    have f2 := AutoSeq1.sub_tuple_tuple
    have f3 := AutoSeq1.sub_list_list
    have f4 := AutoSeq1.sub_tuple_list
    have f5 := AutoSeq1.sub_list_tuple
    have zz : (items ++ items2).size ≤ sizeLine + 1 := by rw [Array.size_append]; exact hz2
    wp_walk using (wpAny_updateSeq hl rfl (hz := hz) (_hz' := zz)), AutoSeq1.wpAny_loadPart' hl, AutoSeq1.wpAny_loadPart' hb
    exact ⟨_, rfl, h⟩
section
variable {X : Cx}
def rExtS (K : PySem.W.Frag) : V → List V → Hp → VK → Prop := fun x vs H Q => ∃ l b xs zs, x = .ref l ∧ vs = [.ref b] ∧ H l = some (.lst xs) ∧ SqL K H b zs ∧ xs.length + zs.length ≤ sizeLine ∧ Q .non (upd H l (.lst (xs ++ zs)))
theorem mt_extS : MtR X "list.extend" (rExtS X.K) := by
  intro pins s σ H x vs v us Q I rx rv h
  obtain ⟨l, b, xs, zs, rfl, rfl, hH, hB, hz, q⟩ := h
  cases rx
  obtain ⟨u, rfl, ru⟩ := rv.one
  cases ru
  obtain ⟨z, its, n, r, hl, e⟩ := I.lstM hH
  obtain ⟨its2, r2, ⟨o, n2, e2, c2, d2, q2⟩, z2⟩ := I.list hB
  have hl2 := r2.length
  obtain ⟨cls, dd, data, sl⟩ := o
  simp only at c2 d2 q2
  subst c2 d2 q2
  have hsz : its.toArray.size + its2.toArray.size ≤ sizeLine := by rw [List.size_toArray, List.size_toArray]; omega
  refine call_meets F.slot_list_extend ⟨_, e, rfl⟩ F.entry_list_extend (F.args_list_extend_2 _ _) (list_extendW l its.toArray n b its2.toArray n2 sl (extend_door hsz) (Nat.le_trans (Nat.le_add_right _ _) hsz) (by omega)) ⟨e, e2, ?_⟩
  refine ⟨.non, _, I.lset (its' := its ++ its2) hH e (by simp) (r.append r2) ?_, rfl, q⟩
  rw [List.length_append]
  exact hz
end

section
variable {X : Cx} {gd : Gd} {Ex : XK} {a b c e o : Expr} {me mo : E} {pos p1 p2 apos cpos : Pos} {i : Nat} {x : Str}
/-- x.extend(e) -/
theorem S_ext (hN : X.N[i]? = some x) (hv : Vis X.env.scope x) (he : PE X e (tE X.K gd Ex me)) (hd : (x == ("__debug__" : Str)) = false := by decide) (hcd : (x == ("__classdict__" : Str)) = false := by decide)
    (hs : swapsWith (.Call (.Attribute (.Name x p1) "extend" apos) [e] [] cpos) none pos.line X.env = pure false := by rfl)
    (hbase : attributeBase (.Name x p1) "extend" X.env (eval (.Name x p1) X.env) = eval (.Name x p1) X.env := by rfl)
    (hfew : ((backTo cpos (starEach [e] X.env)).all (fun x => !x.1) && (backToKw cpos (keywordEach [] X.env)).all (fun x => x.1.isSome)
      && decide ([e].length + ([] : List Keyword).length + (if ([] : List Keyword).isEmpty then 0 else 1) < 30)) = true := by rfl)
    (hline : (apos.endLine == cpos.line) = true := by rfl) (hs2 : starEach [e] X.env = (false, eval e X.env) :: starEach [] X.env := by rfl) (hplain : (backTo cpos (starEach [] X.env)).any (·.1) = false := by rfl) :
    PS X (.Expr (.Call (.Attribute (.Name x p1) "extend" apos) [e] [] cpos) pos) (tS X.K gd Ex (sExt i me)) := by
  refine PS.imp (ps_expr (pe_bm PySem.F.plainAttrs_list PySem.F.slot_list_extend PySem.F.type_list_extend mt_extS (pe_var hN hv hd hcd) (A_cons he A_nil hs2) hbase hfew hline hs2 hplain) hs) fun D σ H h => ?_
  obtain ⟨w0, w1, w, h, aσ, fr, st, wk, wg, rfl, r, sl, o⟩ := h
  have o : OutS w0 w1 Ex D (sExt i me aσ h) := o
  unfold sExt at o
  cases eo : ownAt aσ i with
  | none => rw [eo] at o; exact o.elim
  | some ds =>
    rw [eo] at o
    obtain ⟨a, xs, e2, e3, hH, n, rs, fa, _⟩ := sl.ownAt eo
    refine ⟨_, e3, .inl ⟨rfl, _, SqL.of hH⟩, ?_⟩
    have o : OutS w0 w1 Ex D ((evs [me] aσ h).stmt fun vs h' => match vs with
      | [d] => (match d with
        | .lst es => if ds.length + es.length ≤ LIM then .nx (aσ.set i (.own (.lst (ds ++ es)))) h' else .no
        | _ => .no)
      | _ => .no) := by
      have ee : evs [me] aσ h = (me aσ h).next fun d => ret [d] := rfl
      rw [ee]
      cases ev : me aσ h with
      | ok d h1 => rw [ev] at o; cases d <;> exact o
      | er c vs h1 => rw [ev] at o; exact o
      | no => rw [ev] at o; exact o
    refine tS_A fr st wk wg r sl o fun vs h1 w' us f1 s1 k1 g1 r1 sl1 rv o1 => ?_
    match vs, rv, o1 with
    | [.lst es], rv, o1 =>
      have o1 : OutS w0 w1 Ex D (if ds.length + es.length ≤ LIM then .nx (aσ.set i (.own (.lst (ds ++ es)))) h1 else .no) := o1
      rw [Reps] at rv
      obtain ⟨u, us', rfl, ru, rv⟩ := rv
      rw [Reps] at rv
      subst rv
      rw [rep_lst_iff] at ru
      obtain ⟨b, ys, rfl, tb, rb⟩ := ru
      by_cases hl : ds.length + es.length ≤ LIM
      · rw [if_pos hl] at o1
        obtain ⟨a', xs', e2', e3', hH', n', rs', fa', wr⟩ := sl1.ownAt eo
        rw [e3] at e3'
        cases e3'
        refine ⟨a, b, xs', ys, rfl, rfl, hH', k1 ▸ tb.sq, by rw [rs'.length, rb.length]; exact size_le hl, ?_⟩
        exact o1 (w'.put a (.lst (xs' ++ ys))) σ (f1.wr fa') (s1.trans (step_wr n')) (r1.wr n' hH' lst_notbl) (wr _ _ (Reps.append rs' rb))
      · rw [if_neg hl] at o1; exact o1.elim
    | [], rv, o1 => exact o1.elim
    | [.non], rv, o1 => exact o1.elim
    | [.bl _], rv, o1 => exact o1.elim
    | [.int _], rv, o1 => exact o1.elim
    | [.str _], rv, o1 => exact o1.elim
    | [.tup _], rv, o1 => exact o1.elim
    | [.dct _ _], rv, o1 => exact o1.elim
    | [.obj _ _ _], rv, o1 => exact o1.elim
    | [.ref _], rv, o1 => exact o1.elim
    | _ :: _ :: _, rv, o1 => exact o1.elim
/-! ### texts -/
theorem int_ok {i : Int} (h : i.natAbs < 2 ^ 64) : i.natAbs.log2 < 1920 := by
  rcases Nat.eq_zero_or_pos i.natAbs with z | z
  · rw [z]; decide
  · exact Nat.lt_trans ((Nat.log2_lt (Nat.pos_iff_ne_zero.mp z)).mpr h) (by decide)
theorem cps_lt (z : String) : ∀ c ∈ cps z, c < 1114112 := by
  intro c hc
  unfold cps at hc
  obtain ⟨ch, _, rfl⟩ := List.mem_map.mp hc
  have := ch.valid
  rcases this with h | h
  · exact Nat.lt_trans h (by decide)
  · exact h.2
theorem rep_int_text {w : Wd} {i : Int} (h : i.natAbs < 2 ^ 64) : Rep w (.str (cps (toString i))) (.str (Str.ofString (toString i))) := by
  rw [rep_str, str_cps]
  refine ⟨rfl, ?_, cps_lt _⟩
  have := int_text_fits (int_ok h)
  rw [str_cps, sv_len] at this
  exact this
theorem o_str : CallR X (.type "str") (c1 X.K gd Ex pStr) := by
  intro pins s σ H xs us Q I rs h
  obtain ⟨x, rfl, w, h, dx, wk, wg, rfl, r, hx, o⟩ := h
  cases dx with
  | str z =>
    rw [rep_str] at hx
    obtain ⟨rfl, ok⟩ := hx
    exact SkE.call_str_str pins s σ _ _ us Q I rs ⟨_, rfl, out_val o r (by rw [rep_str]; exact ⟨rfl, ok⟩)⟩
  | int i =>
    rw [rep_int] at hx
    subst hx
    obtain ⟨hl, o⟩ := out_guard (a := ret (D.str (cps (toString i)))) o
    exact call_str_int pins s σ _ _ us Q I rs ⟨i, rfl, int_ok hl, out_val o r (rep_int_text hl)⟩
  | _ => exact o.elim
/-- f'{e}' -/
theorem R_fs1 (he : PE X e (tE X.K gd Ex me)) : PE X (.JoinedStr [.FormattedValue e (-1) none p1] pos) (tE X.K gd Ex (e1 pStr me)) := by
  refine PE.imp (pe_joined1 (pe_fmt he)) fun σ H Q h => ?_
  obtain ⟨w, h, aσ, wk, wg, rfl, r, s, o⟩ := h
  refine tE_bind wk wg r s o fun d h1 w1 v s1 k1 g1 r1 sl1 rv o1 => ?_
  cases d with
  | str z =>
    rw [rep_str] at rv
    obtain ⟨rfl, ok⟩ := rv
    exact .inl ⟨_, rfl, by rw [sv_len]; exact ok.len, out_val (show Out w1 Ex (ret (D.str z) h1) _ from o1) r1 (by rw [rep_str]; exact ⟨rfl, ok⟩)⟩
  | int i =>
    rw [rep_int] at rv
    subst rv
    obtain ⟨hl, o1⟩ := out_guard (a := ret (D.str (cps (toString i)))) (show Out w1 Ex ((if i.natAbs < 2 ^ 64 then ret (D.str (cps (toString i))) else no) h1) _ from o1)
    exact .inr ⟨i, rfl, int_ok hl, out_val o1 r1 (rep_int_text hl)⟩
  | _ => exact o1.elim
/-- x.split(c) -/
theorem R_split (ho : PE X o (tE X.K gd Ex mo)) (he : PE X e (tE X.K gd Ex me)) (hs : starEach [e] X.env = [(false, eval e X.env)] := by rfl) (hbase : attributeBase o "split" X.env (eval o X.env) = eval o X.env := by rfl) (hline : (apos.endLine == pos.line) = true := by rfl) :
    PE X (.Call (.Attribute o "split" apos) [e] [] pos) (tE X.K gd Ex (eS2 pSplit mo me)) := by
  refine PE.imp (pe_split ho he hs hbase hline) fun σ H Q h => ?_
  obtain ⟨w, h, aσ, wk, wg, rfl, r, s, o⟩ := h
  refine tE_bind wk wg r s o fun d h1 w1 v s1 k1 g1 r1 sl1 rv o1 => ?_
  obtain ⟨hd, o1⟩ := out_guard o1
  cases d with
  | str z =>
    rw [rep_str] at rv
    obtain ⟨rfl, ok⟩ := rv
    refine ⟨⟨_, rfl⟩, tE_bind k1 g1 r1 sl1 o1 fun d2 h2 w2 v2 s2 k2 g2 r2 sl2 rv2 o2 => ?_⟩
    match d2, rv2, o2 with
    | .str [c], rv2, o2 =>
      rw [rep_str] at rv2
      obtain ⟨rfl, ok2⟩ := rv2
      obtain ⟨⟨hc, hl⟩, o2⟩ := out_guard (a := ret (D.lst ((splitL c [] z).map .str))) (show Out w2 Ex ((if c < 256 ∧ z.length ≤ LIM then ret (D.lst ((splitL c [] z).map .str)) else no) h2) _ from o2)
      refine ⟨_, ⟨#[c]⟩, rfl, rfl, by rfl, by rw [sv_len]; exact Nat.le_trans (Nat.add_le_add_right hl 2) (by decide), fun p hp => ?_⟩
      rw [split_one z c hc, List.map_map]
      exact out_put o2 r2 hp (rep_lst r2 hp (strs_rep _ fun y hy => by
        obtain ⟨m1, m2⟩ := splitL_mem c z [] y hy
        refine ⟨Nat.le_trans m1 (by rw [List.length_nil, Nat.zero_add]; exact ok.len), fun d hd => ?_⟩
        rcases m2 d hd with q | q
        · cases q
        · exact ok.ok d q))
    | .str [], _, o2 => exact o2.elim
    | .str (_ :: _ :: _), _, o2 => exact o2.elim
    | .non, _, o2 => exact o2.elim
    | .bl _, _, o2 => exact o2.elim
    | .int _, _, o2 => exact o2.elim
    | .tup _, _, o2 => exact o2.elim
    | .lst _, _, o2 => exact o2.elim
    | .dct _ _, _, o2 => exact o2.elim
    | .obj _ _ _, _, o2 => exact o2.elim
    | .ref _, _, o2 => exact o2.elim
  | _ => cases hd
/-- x.index(c) -/
theorem R_index (ho : PE X o (tE X.K gd Ex mo)) (he : PE X e (tE X.K gd Ex me)) (hs : starEach [e] X.env = [(false, eval e X.env)] := by rfl) (hbase : attributeBase o "index" X.env (eval o X.env) = eval o X.env := by rfl) (hline : (apos.endLine == pos.line) = true := by rfl) :
    PE X (.Call (.Attribute o "index" apos) [e] [] pos) (tE X.K gd Ex (eS2 pIndex mo me)) := by
  refine PE.imp (pe_m1 F.slot_str_index F.type_str_index mt_sindex ho he hs hbase hline) fun σ H Q h => ?_
  obtain ⟨w, h, aσ, wk, wg, rfl, r, s, o⟩ := h
  refine tE_bind wk wg r s o fun d h1 w1 v s1 k1 g1 r1 sl1 rv o1 => ?_
  obtain ⟨hd, o1⟩ := out_guard o1
  cases d with
  | str z =>
    rw [rep_str] at rv
    obtain ⟨rfl, ok⟩ := rv
    refine ⟨⟨_, rfl⟩, tE_bind k1 g1 r1 sl1 o1 fun d2 h2 w2 v2 s2 k2 g2 r2 sl2 rv2 o2 => ?_⟩
    match d2, rv2, o2 with
    | .str [c], rv2, o2 =>
      rw [rep_str] at rv2
      obtain ⟨rfl, ok2⟩ := rv2
      obtain ⟨d, e3, o2⟩ := out_opt (show Out w2 Ex ((ofOpt ((ixD c z).map fun (i : Nat) => D.int (i : Int)) : M D) h2) _ from o2)
      obtain ⟨k, e4, rfl⟩ := Option.map_eq_some_iff.mp e3
      obtain ⟨rest, e5⟩ := occ_one e4
      exact ⟨_, ⟨#[c]⟩, k, rest, rfl, rfl, e5, out_val o2 r2 (by rw [rep_int])⟩
    | .str [], _, o2 => exact o2.elim
    | .str (_ :: _ :: _), _, o2 => exact o2.elim
    | .non, _, o2 => exact o2.elim
    | .bl _, _, o2 => exact o2.elim
    | .int _, _, o2 => exact o2.elim
    | .tup _, _, o2 => exact o2.elim
    | .lst _, _, o2 => exact o2.elim
    | .dct _ _, _, o2 => exact o2.elim
    | .obj _ _ _, _, o2 => exact o2.elim
    | .ref _, _, o2 => exact o2.elim
  | _ => cases hd
theorem T_notN {j : Nat} {p : Pos} {ma : E} (ha : PE X a (tE X.K gd Ex ma)) : PT X (.Compare a [.IsNot] [.Constant .none j p] pos) (tT X.K gd Ex (tOf (e1 pNotN ma))) := by
  refine PT.imp (pt_cmp (pc_notN ha) rfl) fun σ H Q h => ?_
  obtain ⟨w, h, aσ, wk, wg, rfl, r, s, o⟩ := h
  have o : Out w Ex ((ma aσ >>= fun x => pNotN x >>= pTruth) h) (fun b _ w' => Q b w'.H) := by
    have z : (tOf (e1 pNotN ma) aσ) h = (ma aσ >>= fun x => pNotN x >>= pTruth) h := by
      show ((ma aσ h).next fun x => pNotN x).next pTruth = (ma aσ h).next fun x h1 => (pNotN x h1).next pTruth
      cases ma aσ h <;> rfl
    rw [← z]; exact o
  unfold L2.tB L2.tNotN
  refine tE_bind wk wg r s o fun d h1 w1 v s1 k1 g1 r1 sl1 rv o1 => ?_
  refine ⟨_, rfl, ?_⟩
  rw [RelV.isNon rv]
  exact out_ret (show Out w1 Ex ((ret (!isNon d) : M Bool) h1) _ from (by cases d <;> exact o1)) r1
end
end Cf
set_option Elab.async false
set_option linter.all false
set_option maxRecDepth 100000
set_option maxHeartbeats 4000000
namespace Cf
abbrev k_LETTERS : D := (.str (cps "abcdefghijklmnopqrstuvwxyz"))
abbrev k_LEAST_LETTERS : D := (.int 2)
abbrev k_MOST_LETTERS : D := (.int 4)
abbrev k_ANY : D := (.str (cps "?"))
abbrev k_LIKE : D := (.str (cps "like"))
abbrev k_BEGINS : D := (.str (cps "begins"))
abbrev k_ENDS : D := (.str (cps "ends"))
abbrev k_HOLDS : D := (.str (cps "holds"))
abbrev k_COUNT : D := (.str (cps "count"))
abbrev k_FROM : D := (.str (cps "from"))
abbrev k_BACK : D := (.str (cps "back"))
abbrev k_TURNED : D := (.str (cps "turned"))
abbrev k_NOT : D := (.str (cps "not"))
abbrev k_BOTH : D := (.str (cps "both"))
abbrev k_EITHER : D := (.str (cps "either"))
def t_SIZES : List (List Nat × Int) := [((cps "like"), 2), ((cps "begins"), 2), ((cps "ends"), 2), ((cps "holds"), 2), ((cps "count"), 3), ((cps "from"), 3), ((cps "back"), 2), ((cps "turned"), 1), ((cps "not"), 2), ((cps "both"), 3), ((cps "either"), 3)]
abbrev k_MOST_DEPTH : D := (.int 4)
abbrev k_DIGITS : D := (.str (cps "0123456789"))
/-- is_number: value low high -/
def b_is_number : Ms :=
  sRet (eAnd (e1 (pIsi [.int]) (eVar 0)) (eAnd (eNot (e1 (pIsi [.bool]) (eVar 0))) (eChain pLe pLe (eVar 1) (eVar 0) (eVar 2))))
def m_is_number : List D → M D := run 3 3 b_is_number

/-- check: is_right name -/
def b_check : Ms :=
  sIf (tNot (tOf (eVar 0)))
   (sRaise "BadArgument" [eVar 1])
   (sPass)
def m_check : List D → M D := run 2 2 b_check

/-- is_text_of: value least most signs sign -/
def b_is_text_of : Ms :=
  sRet (eAnd (e1 (pIsi [.str]) (eVar 0)) (eAnd (eChain pLe pLe (eVar 1) (e1 pLen (eVar 0)) (eVar 2)) (eAll (iOf (eVar 0)) (gVar 4) (tBl (e2 pIn (eVar 4) (eVar 3))) [4])))
def m_is_text_of : List D → M D := run 5 4 b_is_text_of

/-- is_word: value -/
def b_is_word : Ms :=
  sRet (eN m_is_text_of [eVar 0, eC k_LEAST_LETTERS, eC k_MOST_LETTERS, eC k_LETTERS])
def m_is_word : List D → M D := run 1 1 b_is_word

/-- is_pattern: value -/
def b_is_pattern : Ms :=
  sRet (eN m_is_text_of [eVar 0, eC k_LEAST_LETTERS, eC k_MOST_LETTERS, e2 pAdd (eC k_LETTERS) (eC k_ANY)])
def m_is_pattern : List D → M D := run 1 1 b_is_pattern

/-- is_clue_of: value depth kind own -/
def b_is_clue_of (m : List D → M D) : Ms :=
  sSeq (sIf (tOr (tNot (tOf (e1 (pIsi [.tuple]) (eVar 0)))) (tOr (tOf (e2 pEq (e1 pLen (eVar 0)) (eC (.int 0)))) (tOr (tNot (tOf (e1 (pIsi [.str]) (e2 pIdx (eVar 0) (eC (.int 0)))))) (tOf (e2 pEq (eVar 1) (eC (.int 0)))))))
   (sRet (eC (.bl false)))
   (sPass))
  (sSeq (sSet 2 (e2 pIdx (eVar 0) (eC (.int 0))))
  (sSeq (sIf (tOr (tOf (e1 (pNotInTab t_SIZES) (eVar 2))) (tOf (e2 pNe (e1 pLen (eVar 0)) (e1 (pGetTab t_SIZES) (eVar 2)))))
   (sRet (eC (.bl false)))
   (sPass))
  (sSeq (sIf (tOf (e2 pIn (eVar 2) (eTup [eC k_NOT, eC k_BOTH, eC k_EITHER])))
   (sRet (eAll (iOf (eSlice (eVar 0) (some (eC (.int 1))) none)) (gVar 3) (tBl (eN m [eVar 3, e2 pSub (eVar 1) (eC (.int 1))])) [3]))
   (sPass))
  (sSeq (sIf (tOf (e2 pEq (eVar 2) (eC k_LIKE)))
   (sRet (eN m_is_pattern [e2 pIdx (eVar 0) (eC (.int 1))]))
   (sPass))
  (sSeq (sIf (tOf (e2 pIn (eVar 2) (eTup [eC k_BEGINS, eC k_ENDS, eC k_HOLDS])))
   (sRet (eN m_is_text_of [e2 pIdx (eVar 0) (eC (.int 1)), eC (.int 1), eC k_MOST_LETTERS, eC k_LETTERS]))
   (sPass))
  (sSeq (sIf (tOf (e2 pEq (eVar 2) (eC k_COUNT)))
   (sRet (eAnd (eN m_is_text_of [e2 pIdx (eVar 0) (eC (.int 1)), eC (.int 1), eC (.int 1), eC k_LETTERS]) (eN m_is_number [e2 pIdx (eVar 0) (eC (.int 2)), eC (.int 0), eC k_MOST_LETTERS])))
   (sPass))
  (sSeq (sIf (tOf (e2 pEq (eVar 2) (eC k_FROM)))
   (sRet (eAnd (eN m_is_text_of [e2 pIdx (eVar 0) (eC (.int 1)), eC (.int 1), eC k_MOST_LETTERS, eC k_LETTERS]) (eN m_is_text_of [e2 pIdx (eVar 0) (eC (.int 2)), eC (.int 1), eC k_MOST_LETTERS, eC k_LETTERS])))
   (sPass))
  (sRet (eIf (tOf (e2 pEq (eVar 2) (eC k_BACK))) (eN m_is_word [e2 pIdx (eVar 0) (eC (.int 1))]) (eC (.bl true)))))))))))
def m_is_clue_of : Nat → List D → M D
  | 0 => fun _ => no
  | n + 1 => run 4 2 (b_is_clue_of (m_is_clue_of n))

/-- is_clue: value -/
def b_is_clue : Ms :=
  sRet (eN (m_is_clue_of 8) [eVar 0, eC k_MOST_DEPTH])
def m_is_clue : List D → M D := run 1 1 b_is_clue

/-- clue_words: clue found own -/
def b_clue_words (m : List D → M D) : Ms :=
  sSeq (sOwn 1 [e2 pIdx (eVar 0) (eC (.int 0))])
  (sSeq (sFor (iOf (eSlice (eVar 0) (some (eC (.int 1))) none)) (gVar 2)
   (sExt 1 (eIf (tOf (e1 (pIsi [.tuple]) (eVar 2))) (eN m [eVar 2]) (eLst [e1 pStr (eVar 2)]))))
  (sFrz 1 (sRet (eVar 1))))
def m_clue_words : Nat → List D → M D
  | 0 => fun _ => no
  | n + 1 => run 3 1 (b_clue_words (m_clue_words n))

/-- clue_text: clue -/
def b_clue_text : Ms :=
  sSeq (sExpr (eN m_check [eN m_is_clue [eVar 0], eC (.str (cps "clue"))]))
  (sRet (eS2 pJoin (eC (.str (cps " "))) (eN (m_clue_words 8) [eVar 0])))
def m_clue_text : List D → M D := run 1 1 b_clue_text

/-- number_in: word least most found -/
def b_number_in : Ms :=
  sSeq (sSet 3 (eIf (tAnd (tOf (e2 pEq (e1 pLen (eVar 0)) (eC (.int 1)))) (tOf (e2 pIn (eVar 0) (eC k_DIGITS)))) (eS2 pIndex (eC k_DIGITS) (eVar 0)) (eC (.int (-1)))))
  (sRet (eIf (tOf (eChain pLe pLe (eVar 1) (eVar 3) (eVar 2))) (eVar 3) (eC (.int (-1)))))
def m_number_in : List D → M D := run 4 3 b_number_in

/-- read_word: kind words many own -/
def b_read_word : Ms :=
  sSeq (sSet 2 (e2 pSub (e1 (pGetTab t_SIZES) (eVar 0)) (eC (.int 1))))
  (sSeq (sIf (tOf (e2 pLt (e1 pLen (eVar 1)) (eVar 2)))
   (sRet (eC .non))
   (sPass))
  (sSeq (sSet 3 (e2 pAdd (eTup [eVar 0]) (e1 pTuple (eSlice (eVar 1) none (some (eVar 2))))))
  (sSeq (sIf (tOf (e2 pEq (eVar 0) (eC k_COUNT)))
   (sSet 3 (eTup [eVar 0, e2 pIdx (eVar 1) (eC (.int 0)), eN m_number_in [e2 pIdx (eVar 1) (eC (.int 1)), eC (.int 0), eC k_MOST_LETTERS]]))
   (sPass))
  (sRet (eTup [eVar 3, eSlice (eVar 1) (some (eVar 2)) none])))))
def m_read_word : List D → M D := run 4 2 b_read_word

/-- read_clue_from: words depth kind rest found turn told -/
def b_read_clue_from (m : List D → M D) : Ms :=
  sSeq (sIf (tOr (tOf (e2 pEq (e1 pLen (eVar 0)) (eC (.int 0)))) (tOr (tOf (e1 (pNotInTab t_SIZES) (e2 pIdx (eVar 0) (eC (.int 0))))) (tOf (e2 pEq (eVar 1) (eC (.int 0))))))
   (sRet (eC .non))
   (sPass))
  (sSeq (sPar 2 3 (e2 pIdx (eVar 0) (eC (.int 0))) (eSlice (eVar 0) (some (eC (.int 1))) none))
  (sSeq (sIf (tOf (e2 pNotIn (eVar 2) (eTup [eC k_NOT, eC k_BOTH, eC k_EITHER])))
   (sRet (eN m_read_word [eVar 2, eVar 3]))
   (sPass))
  (sSeq (sOwn 4 [eVar 2])
  (sSeq (sFor (iRange1 (e2 pSub (e1 (pGetTab t_SIZES) (eVar 2)) (eC (.int 1)))) (gVar 5)
   (sSeq (sSet 6 (eN m [eVar 3, e2 pSub (eVar 1) (eC (.int 1))]))
   (sSeq (sIf (tOf (e1 pIsN (eVar 6)))
    (sRet (eC .non))
    (sPass))
   (sSeq (sApp 4 (e2 pIdx (eVar 6) (eC (.int 0))))
   (sSet 3 (e2 pIdx (eVar 6) (eC (.int 1))))))))
  (sFrz 4 (sRet (eTup [e1 pTuple (eVar 4), eVar 3])))))))
def m_read_clue_from : Nat → List D → M D
  | 0 => fun _ => no
  | n + 1 => run 7 2 (b_read_clue_from (m_read_clue_from n))

/-- clue_in: words found -/
def b_clue_in : Ms :=
  sSeq (sSet 1 (eN (m_read_clue_from 8) [eVar 0, eC k_MOST_DEPTH]))
  (sRet (eIf (tAnd (tOf (e1 pNotN (eVar 1))) (tAnd (tOf (e2 pEq (e1 pLen (e2 pIdx (eVar 1) (eC (.int 1)))) (eC (.int 0)))) (tOf (eN m_is_clue [e2 pIdx (eVar 1) (eC (.int 0))])))) (e2 pIdx (eVar 1) (eC (.int 0))) (eC .non)))
def m_clue_in : List D → M D := run 2 1 b_clue_in

/-- read_clue: text -/
def b_read_clue : Ms :=
  sSeq (sExpr (eN m_check [e1 (pIsi [.str]) (eVar 0), eC (.str (cps "text"))]))
  (sRet (eN m_clue_in [eS2 pSplit (eVar 0) (eC (.str (cps " ")))]))
def m_read_clue : List D → M D := run 1 1 b_read_clue

/-- _law_taken: row many cell found -/
def b__law_taken : Ms :=
  sSeq (sIf (tOf (e2 pGt (e2 pIdx (eVar 0) (eC (.int 3))) (eC (.int 0))))
   (sSeq (sSet 3 (e2 pMod (e1 pInt (e2 pIdx (eVar 0) (eC (.int 3)))) (eVar 1)))
   (sSeq (sSetItem (eVar 0) (eC (.int 3)) (e2 pFDiv (e2 pIdx (eVar 0) (eC (.int 3))) (eVar 1)))
   (sRet (eVar 3))))
   (sPass))
  (sSeq (sSetItem (eVar 0) (eC (.int 1)) (e2 pAdd (e2 pIdx (eVar 0) (eC (.int 1))) (eC (.int 1))))
  (sSeq (sIf (tOf (e2 pGt (e2 pIdx (eVar 0) (eC (.int 1))) (e1 pLen (e2 pIdx (eVar 0) (eC (.int 0))))))
   (sSeq (sSetItem (eVar 0) (eC (.int 2)) (e2 pMod (e1 pInt (e2 pAdd (e2 pMul (e2 pIdx (eVar 0) (eC (.int 2))) (eC (.int 48271))) (eC (.int 11)))) (eC (.int 2147483647))))
   (sRet (e2 pMod (e1 pInt (e2 pFDiv (e2 pIdx (eVar 0) (eC (.int 2))) (eC (.int 7)))) (eVar 1))))
   (sPass))
  (sSeq (sSet 2 (e2 pIdx (e2 pIdx (eVar 0) (eC (.int 0))) (e2 pSub (e2 pIdx (eVar 0) (eC (.int 1))) (eC (.int 1)))))
  (sSeq (sSetItem (eVar 0) (eC (.int 2)) (e2 pMod (e1 pInt (e2 pAdd (e2 pAdd (e2 pMul (e2 pIdx (eVar 0) (eC (.int 2))) (eC (.int 48271))) (eVar 2)) (eC (.int 11)))) (eC (.int 2147483647))))
  (sSeq (sIf (tOf (e2 pGe (eVar 2) (e2 pPow (eC (.int 10)) (eC (.int 18)))))
   (sSetItem (eVar 0) (eC (.int 3)) (e2 pFDiv (eVar 2) (eVar 1)))
   (sPass))
  (sRet (e2 pMod (e1 pInt (eVar 2)) (eVar 1))))))))
def m__law_taken : List D → M D := run 4 2 b__law_taken

/-- _law_pick: row some -/
def b__law_pick : Ms :=
  sRet (e2 pIdx (eVar 1) (eN m__law_taken [eVar 0, e1 pLen (eVar 1)]))
def m__law_pick : List D → M D := run 2 2 b__law_pick

/-- _law_text: row least most signs turn -/
def b__law_text : Ms :=
  sRet (eS2 pJoin (eC (.str (cps ""))) (eComp (iRange1 (e2 pAdd (eVar 1) (eN m__law_taken [eVar 0, e2 pAdd (e2 pSub (eVar 2) (eVar 1)) (eC (.int 1))]))) (gVar 4) (tYes) (e2 pIdx (eVar 3) (eN m__law_taken [eVar 0, e1 pLen (eVar 3)])) [4]))
def m__law_text : List D → M D := run 5 4 b__law_text

/-- _law_clue: row depth some kind turn -/
def b__law_clue (m : List D → M D) : Ms :=
  sSeq (sSet 2 (eLst [eC (.str (cps "like")), eC (.str (cps "begins")), eC (.str (cps "ends")), eC (.str (cps "holds")), eC (.str (cps "count")), eC (.str (cps "from")), eC (.str (cps "back")), eC (.str (cps "turned"))]))
  (sSeq (sSet 3 (eN m__law_pick [eVar 0, e2 pAdd (eVar 2) (eIf (tOf (e2 pGt (eVar 1) (eC (.int 1)))) (eLst [eC (.str (cps "not")), eC (.str (cps "both")), eC (.str (cps "either"))]) (eLst []))]))
  (sSeq (sIf (tOf (e2 pIn (eVar 3) (eTup [eC (.str (cps "not")), eC (.str (cps "both")), eC (.str (cps "either"))])))
   (sRet (e2 pAdd (eTup [eVar 3]) (e1 pTuple (eComp (iRange1 (eIf (tOf (e2 pEq (eVar 3) (eC (.str (cps "not"))))) (eC (.int 1)) (eC (.int 2)))) (gVar 4) (tYes) (eN m [eVar 0, e2 pSub (eVar 1) (eC (.int 1))]) [4]))))
   (sPass))
  (sSeq (sIf (tOf (e2 pEq (eVar 3) (eC (.str (cps "like")))))
   (sRet (eTup [eVar 3, eN m__law_text [eVar 0, eC (.int 2), eC (.int 4), eC (.str (cps "ab?c?"))]]))
   (sPass))
  (sSeq (sIf (tOf (e2 pIn (eVar 3) (eTup [eC (.str (cps "begins")), eC (.str (cps "ends")), eC (.str (cps "holds"))])))
   (sRet (eTup [eVar 3, eN m__law_text [eVar 0, eC (.int 1), eN m__law_pick [eVar 0, eLst [eC (.int 1), eC (.int 2), eC (.int 4)]], eC (.str (cps "abc"))]]))
   (sPass))
  (sSeq (sIf (tOf (e2 pEq (eVar 3) (eC (.str (cps "count")))))
   (sRet (eTup [eVar 3, eN m__law_pick [eVar 0, eLst [eC (.str (cps "a")), eC (.str (cps "b")), eC (.str (cps "c")), eC (.str (cps "z"))]], eN m__law_taken [eVar 0, eN m__law_pick [eVar 0, eLst [eC (.int 2), eC (.int 5)]]]]))
   (sPass))
  (sSeq (sIf (tOf (e2 pEq (eVar 3) (eC (.str (cps "from")))))
   (sRet (eTup [eVar 3, eN m__law_text [eVar 0, eC (.int 1), eC (.int 4), eC (.str (cps "abcd"))], eN m__law_text [eVar 0, eC (.int 1), eC (.int 4), eC (.str (cps "abcdz"))]]))
   (sPass))
  (sRet (eIf (tOf (e2 pEq (eVar 3) (eC (.str (cps "back"))))) (eTup [eVar 3, eN m__law_text [eVar 0, eC (.int 2), eC (.int 4), eC (.str (cps "abc"))]]) (eTup [eVar 3])))))))))
def m__law_clue : Nat → List D → M D
  | 0 => fun _ => no
  | n + 1 => run 5 2 (b__law_clue (m__law_clue n))

/-- _law_alike: found due k key -/
def b__law_alike (m : List D → M D) : Ms :=
  sSeq (sIf (tOf (e1 (pIsi [.tuple, .list]) (eVar 1)))
   (sSeq (sIf (tOr (tNot (tOf (e1 (pIsi [.tuple, .list]) (eVar 0)))) (tOf (e2 pNe (e1 (pIsi [.list]) (eVar 0)) (e1 (pIsi [.list]) (eVar 1)))))
    (sRet (eC (.bl false)))
    (sPass))
   (sSeq (sIf (tOf (e2 pNe (e1 pLen (eVar 0)) (e1 pLen (eVar 1))))
    (sRet (eC (.bl false)))
    (sPass))
   (sRet (e2 pEq (eComp (iRange1 (e1 pLen (eVar 1))) (gVar 2) (tNot (tOf (eN m [e2 pIdx (eVar 0) (eVar 2), e2 pIdx (eVar 1) (eVar 2)]))) (eVar 2) [2]) (eLst [])))))
   (sPass))
  (sSeq (sIf (tOf (e1 (pIsi [.dict]) (eVar 1)))
  (fun _ _ => .no)
  (sPass))
  (sSeq (sIf (tOr (tOf (e1 pIsN (eVar 1))) (tOf (e1 (pIsi [.str]) (eVar 1))))
   (sRet (eAnd (e2 pEq (eVar 0) (eVar 1)) (e2 pEq (e1 (pIsi [.str]) (eVar 0)) (e1 (pIsi [.str]) (eVar 1)))))
   (sPass))
  (sRet (eAnd (e1 (pIsi [.int]) (eVar 0)) (eAnd (e2 pEq (e1 (pIsi [.bool]) (eVar 0)) (e1 (pIsi [.bool]) (eVar 1))) (e2 pEq (eVar 0) (eVar 1)))))))
def m__law_alike : Nat → List D → M D
  | 0 => fun _ => no
  | n + 1 => run 4 2 (b__law_alike (m__law_alike n))

/-- _law_clue_text: clue own -/
def b__law_clue_text (m : List D → M D) : Ms :=
  sRet (eS2 pJoin (eC (.str (cps " "))) (e2 pAdd (eLst [e2 pIdx (eVar 0) (eC (.int 0))]) (eComp (iOf (eSlice (eVar 0) (some (eC (.int 1))) none)) (gVar 1) (tYes) (eIf (tOf (e1 (pIsi [.tuple]) (eVar 1))) (eN m [eVar 1]) (e1 pStr (eVar 1))) [1])))
def m__law_clue_text : Nat → List D → M D
  | 0 => fun _ => no
  | n + 1 => run 2 1 (b__law_clue_text (m__law_clue_text n))

/-- _law_no_clue: row text some -/
def b__law_no_clue : Ms :=
  sSeq (sSet 2 (eLst [eC (.str (cps "")), eC (.str (cps " ")), eC (.str (cps "like")), eC (.str (cps "like a")), eC (.str (cps "like a? b")), eC (.str (cps "begins abcde")), eC (.str (cps "begins A")), eC (.str (cps "holds")), eC (.str (cps "count a")), eC (.str (cps "count a 5")), eC (.str (cps "count ab 1")), eC (.str (cps "count a 01")), eC (.str (cps "from a")), eC (.str (cps "back a")), eC (.str (cps "turned a")), eC (.str (cps "not"))]))
  (sSeq (sSet 2 (e2 pAdd (eVar 2) (eLst [eC (.str (cps "both turned")), eC (.str (cps "either turned turned turned")), eC (.str (cps "not not not not turned")), eC (.str (cps "Turned")), eC (.str (cps "sounds a")), eC (.str (cps "like  a?")), eC (.str (cps " turned")), eC (.str (cps "turned ")), eC (.str (cps "count a -1"))])))
  (sRet (eN m__law_pick [eVar 0, e2 pAdd (eVar 2) (eLst [e2 pAdd (eVar 1) (eC (.str (cps " "))), e2 pAdd (eVar 1) (eC (.str (cps " turned"))), e2 pAdd (eC (.str (cps "both "))) (eVar 1), eC (.str (cps "not"))])])))
def m__law_no_clue : List D → M D := run 3 2 b__law_no_clue

/-- law: script row turn bad wrong clue text -/
def b_law : Ms :=
  sSeq (sSet 1 (eNewRef [eVar 0, eC (.int 0), eC (.int 7507116), eC (.int 0)]))
  (sSeq (sFor (iRange1 (eC (.int 8))) (gVar 2)
   (sSeq (sSet 5 (eN (m__law_clue 8) [eVar 1, eC (.int 4)]))
   (sSeq (sSet 6 (eN m_clue_text [eVar 5]))
   (sIf (tOr (tNot (tOf (eN (m__law_alike 8) [eLst [eVar 6, eN m_read_clue [eVar 6]], eLst [eN (m__law_clue_text 8) [eVar 5], eVar 5]]))) (tOf (e1 pNotN (eN m_read_clue [eN m__law_no_clue [eVar 1, eVar 6]]))))
    (sRet (eC (.bl false)))
    (sPass)))))
  (sSeq (sAsg (eTup [eN m__law_pick [eVar 1, eLst [eC .non, eTup [], eC (.str (cps "turned")), eTup [eC (.str (cps "turn"))], eTup [eC (.str (cps "like")), eC (.str (cps "a"))]]], eN m__law_pick [eVar 1, eLst [eC .non, eC (.int 0), eLst [eC (.str (cps "turned"))], eTup []]]]) (gTup [gVar 3, gVar 4]))
  (sRet (eN (m__law_alike 8) [eLst [eHeard (eN m_clue_text [eVar 3]), eHeard (eN m_read_clue [eVar 4])], eLst [eTup [eC (.str (cps "bad")), eC (.str (cps "clue")), eC (.bl true)], eTup [eC (.str (cps "bad")), eC (.str (cps "text")), eC (.bl true)]]]))))
def m_law : List D → M D := run 7 1 b_law

end Cf
set_option Elab.async false
set_option linter.all false
set_option maxRecDepth 100000
set_option maxHeartbeats 4000000
namespace Cf
open PySem PySem.Spec L2
/-- the text by places -/
def top (i : Nat) : Stmt := PySem.Challenge.pw_crossfills_k16_clue_texts.main.body.getD i (.Pass ⟨0, 0, 0, 0⟩)
abbrev s_is_number : Stmt := top 11
theorem sc_is_number : FnScope ["value", "low", "high"] ["value", "low", "high"] (defScope s_is_number) := ⟨rfl, rfl, rfl, by decide +kernel, rfl, by decide +kernel, by decide +kernel⟩
abbrev s_check : Stmt := top 12
theorem sc_check : FnScope ["is_right", "name"] ["is_right", "name"] (defScope s_check) := ⟨rfl, rfl, rfl, by decide +kernel, rfl, by decide +kernel, by decide +kernel⟩
abbrev s_is_text_of : Stmt := top 13
theorem sc_is_text_of : FnScope ["value", "least", "most", "signs", "sign"] ["value", "least", "most", "signs"] (defScope s_is_text_of) := ⟨rfl, rfl, rfl, by decide +kernel, rfl, by decide +kernel, by decide +kernel⟩
abbrev s_is_word : Stmt := top 14
theorem sc_is_word : FnScope ["value"] ["value"] (defScope s_is_word) := ⟨rfl, rfl, rfl, by decide +kernel, rfl, by decide +kernel, by decide +kernel⟩
abbrev s_is_pattern : Stmt := top 15
theorem sc_is_pattern : FnScope ["value"] ["value"] (defScope s_is_pattern) := ⟨rfl, rfl, rfl, by decide +kernel, rfl, by decide +kernel, by decide +kernel⟩
abbrev s_is_clue_of : Stmt := top 30
theorem sc_is_clue_of : FnScope ["value", "depth", "kind", "own"] ["value", "depth"] (defScope s_is_clue_of) := ⟨rfl, rfl, rfl, by decide +kernel, rfl, by decide +kernel, by decide +kernel⟩
abbrev s_is_clue : Stmt := top 31
theorem sc_is_clue : FnScope ["value"] ["value"] (defScope s_is_clue) := ⟨rfl, rfl, rfl, by decide +kernel, rfl, by decide +kernel, by decide +kernel⟩
abbrev s_clue_words : Stmt := top 34
theorem sc_clue_words : FnScope ["clue", "found", "own"] ["clue"] (defScope s_clue_words) := ⟨rfl, rfl, rfl, by decide +kernel, rfl, by decide +kernel, by decide +kernel⟩
abbrev s_clue_text : Stmt := top 35
theorem sc_clue_text : FnScope ["clue"] ["clue"] (defScope s_clue_text) := ⟨rfl, rfl, rfl, by decide +kernel, rfl, by decide +kernel, by decide +kernel⟩
abbrev s_number_in : Stmt := top 36
theorem sc_number_in : FnScope ["word", "least", "most", "found"] ["word", "least", "most"] (defScope s_number_in) := ⟨rfl, rfl, rfl, by decide +kernel, rfl, by decide +kernel, by decide +kernel⟩
abbrev s_read_word : Stmt := top 37
theorem sc_read_word : FnScope ["kind", "words", "many", "own"] ["kind", "words"] (defScope s_read_word) := ⟨rfl, rfl, rfl, by decide +kernel, rfl, by decide +kernel, by decide +kernel⟩
abbrev s_read_clue_from : Stmt := top 38
theorem sc_read_clue_from : FnScope ["words", "depth", "kind", "rest", "found", "turn", "told"] ["words", "depth"] (defScope s_read_clue_from) := ⟨rfl, rfl, rfl, by decide +kernel, rfl, by decide +kernel, by decide +kernel⟩
abbrev s_clue_in : Stmt := top 39
theorem sc_clue_in : FnScope ["words", "found"] ["words"] (defScope s_clue_in) := ⟨rfl, rfl, rfl, by decide +kernel, rfl, by decide +kernel, by decide +kernel⟩
abbrev s_read_clue : Stmt := top 40
theorem sc_read_clue : FnScope ["text"] ["text"] (defScope s_read_clue) := ⟨rfl, rfl, rfl, by decide +kernel, rfl, by decide +kernel, by decide +kernel⟩
abbrev s__law_taken : Stmt := top 42
theorem sc__law_taken : FnScope ["row", "many", "cell", "found"] ["row", "many"] (defScope s__law_taken) := ⟨rfl, rfl, rfl, by decide +kernel, rfl, by decide +kernel, by decide +kernel⟩
abbrev s__law_pick : Stmt := top 43
theorem sc__law_pick : FnScope ["row", "some"] ["row", "some"] (defScope s__law_pick) := ⟨rfl, rfl, rfl, by decide +kernel, rfl, by decide +kernel, by decide +kernel⟩
abbrev s__law_text : Stmt := top 44
theorem sc__law_text : FnScope ["row", "least", "most", "signs", "turn"] ["row", "least", "most", "signs"] (defScope s__law_text) := ⟨rfl, rfl, rfl, by decide +kernel, rfl, by decide +kernel, by decide +kernel⟩
abbrev s__law_clue : Stmt := top 45
theorem sc__law_clue : FnScope ["row", "depth", "some", "kind", "turn"] ["row", "depth"] (defScope s__law_clue) := ⟨rfl, rfl, rfl, by decide +kernel, rfl, by decide +kernel, by decide +kernel⟩
abbrev s__law_alike : Stmt := top 46
theorem sc__law_alike : FnScope ["found", "due", "k", "key"] ["found", "due"] (defScope s__law_alike) := ⟨rfl, rfl, rfl, by decide +kernel, rfl, by decide +kernel, by decide +kernel⟩
abbrev s__law_clue_text : Stmt := top 47
theorem sc__law_clue_text : FnScope ["clue", "own"] ["clue"] (defScope s__law_clue_text) := ⟨rfl, rfl, rfl, by decide +kernel, rfl, by decide +kernel, by decide +kernel⟩
abbrev s__law_no_clue : Stmt := top 48
theorem sc__law_no_clue : FnScope ["row", "text", "some"] ["row", "text"] (defScope s__law_no_clue) := ⟨rfl, rfl, rfl, by decide +kernel, rfl, by decide +kernel, by decide +kernel⟩
abbrev s__law_heard : Stmt := top 49
theorem sc__law_heard : FnScope ["ask", "e"] ["ask"] (defScope s__law_heard) := ⟨rfl, rfl, rfl, by decide +kernel, rfl, by decide +kernel, by decide +kernel⟩
abbrev s_law : Stmt := top 50
theorem sc_law : FnScope ["script", "row", "turn", "bad", "wrong", "clue", "text"] ["script"] (defScope s_law) := ⟨rfl, rfl, rfl, by decide +kernel, rfl, by decide +kernel, by decide +kernel⟩
theorem bt_bool : bootBuiltins "bool" = some (.type "bool") := by decide +kernel
theorem bt_dict : bootBuiltins "dict" = some (.type "dict") := by decide +kernel
theorem bt_int : bootBuiltins "int" = some (.type "int") := by decide +kernel
theorem bt_list : bootBuiltins "list" = some (.type "list") := by decide +kernel
theorem bt_str : bootBuiltins "str" = some (.type "str") := by decide +kernel
theorem bt_tuple : bootBuiltins "tuple" = some (.type "tuple") := by decide +kernel
/-- what stands behind the top -/
structure Mo (P : Program) (w : World) (K : PySem.W.Frag) (mg : Str → Option Value) (base : Heap) (gd : Gd) where
  f_is_number : Addr
  d_is_number : FuncData
  v_is_number : Value
  n_is_number : Dn K "is_number" "is_number" s_is_number f_is_number d_is_number v_is_number
  m_is_number : mg "is_number" = some (.ref f_is_number)
  b_is_number : L2.Binds K d_is_number ["value", "low", "high"] []
  f_check : Addr
  d_check : FuncData
  v_check : Value
  n_check : Dn K "check" "check" s_check f_check d_check v_check
  m_check : mg "check" = some (.ref f_check)
  b_check : L2.Binds K d_check ["is_right", "name"] []
  f_is_text_of : Addr
  d_is_text_of : FuncData
  c_is_text_of : Addr
  q_is_text_of : Addr
  n_is_text_of : Dn K "is_text_of" "is_text_of" s_is_text_of f_is_text_of d_is_text_of (.ref c_is_text_of)
  m_is_text_of : mg "is_text_of" = some (.ref f_is_text_of)
  b_is_text_of : L2.Binds K d_is_text_of ["value", "least", "most", "signs"] []
  x_is_text_of : LamX.TabB base mg c_is_text_of q_is_text_of
  y_is_text_of : (q_is_text_of, ("is_text_of" : Str) ++ ".<locals>." ++ "<genexpr>") ∈ gd.T
  o_is_text_of : ∀ p ∈ gd.T, p.1 = q_is_text_of → p.2 = ("is_text_of" : Str) ++ ".<locals>." ++ "<genexpr>"
  f_is_word : Addr
  d_is_word : FuncData
  v_is_word : Value
  n_is_word : Dn K "is_word" "is_word" s_is_word f_is_word d_is_word v_is_word
  m_is_word : mg "is_word" = some (.ref f_is_word)
  b_is_word : L2.Binds K d_is_word ["value"] []
  f_is_pattern : Addr
  d_is_pattern : FuncData
  v_is_pattern : Value
  n_is_pattern : Dn K "is_pattern" "is_pattern" s_is_pattern f_is_pattern d_is_pattern v_is_pattern
  m_is_pattern : mg "is_pattern" = some (.ref f_is_pattern)
  b_is_pattern : L2.Binds K d_is_pattern ["value"] []
  f_is_clue_of : Addr
  d_is_clue_of : FuncData
  c_is_clue_of : Addr
  q_is_clue_of : Addr
  n_is_clue_of : Dn K "is_clue_of" "is_clue_of" s_is_clue_of f_is_clue_of d_is_clue_of (.ref c_is_clue_of)
  m_is_clue_of : mg "is_clue_of" = some (.ref f_is_clue_of)
  b_is_clue_of : L2.Binds K d_is_clue_of ["value", "depth"] []
  x_is_clue_of : LamX.TabB base mg c_is_clue_of q_is_clue_of
  y_is_clue_of : (q_is_clue_of, ("is_clue_of" : Str) ++ ".<locals>." ++ "<genexpr>") ∈ gd.T
  o_is_clue_of : ∀ p ∈ gd.T, p.1 = q_is_clue_of → p.2 = ("is_clue_of" : Str) ++ ".<locals>." ++ "<genexpr>"
  f_is_clue : Addr
  d_is_clue : FuncData
  v_is_clue : Value
  n_is_clue : Dn K "is_clue" "is_clue" s_is_clue f_is_clue d_is_clue v_is_clue
  m_is_clue : mg "is_clue" = some (.ref f_is_clue)
  b_is_clue : L2.Binds K d_is_clue ["value"] []
  f_clue_words : Addr
  d_clue_words : FuncData
  v_clue_words : Value
  n_clue_words : Dn K "clue_words" "clue_words" s_clue_words f_clue_words d_clue_words v_clue_words
  m_clue_words : mg "clue_words" = some (.ref f_clue_words)
  b_clue_words : L2.Binds K d_clue_words ["clue"] []
  f_clue_text : Addr
  d_clue_text : FuncData
  v_clue_text : Value
  n_clue_text : Dn K "clue_text" "clue_text" s_clue_text f_clue_text d_clue_text v_clue_text
  m_clue_text : mg "clue_text" = some (.ref f_clue_text)
  b_clue_text : L2.Binds K d_clue_text ["clue"] []
  f_number_in : Addr
  d_number_in : FuncData
  v_number_in : Value
  n_number_in : Dn K "number_in" "number_in" s_number_in f_number_in d_number_in v_number_in
  m_number_in : mg "number_in" = some (.ref f_number_in)
  b_number_in : L2.Binds K d_number_in ["word", "least", "most"] []
  f_read_word : Addr
  d_read_word : FuncData
  v_read_word : Value
  n_read_word : Dn K "read_word" "read_word" s_read_word f_read_word d_read_word v_read_word
  m_read_word : mg "read_word" = some (.ref f_read_word)
  b_read_word : L2.Binds K d_read_word ["kind", "words"] []
  f_read_clue_from : Addr
  d_read_clue_from : FuncData
  v_read_clue_from : Value
  n_read_clue_from : Dn K "read_clue_from" "read_clue_from" s_read_clue_from f_read_clue_from d_read_clue_from v_read_clue_from
  m_read_clue_from : mg "read_clue_from" = some (.ref f_read_clue_from)
  b_read_clue_from : L2.Binds K d_read_clue_from ["words", "depth"] []
  f_clue_in : Addr
  d_clue_in : FuncData
  v_clue_in : Value
  n_clue_in : Dn K "clue_in" "clue_in" s_clue_in f_clue_in d_clue_in v_clue_in
  m_clue_in : mg "clue_in" = some (.ref f_clue_in)
  b_clue_in : L2.Binds K d_clue_in ["words"] []
  f_read_clue : Addr
  d_read_clue : FuncData
  v_read_clue : Value
  n_read_clue : Dn K "read_clue" "read_clue" s_read_clue f_read_clue d_read_clue v_read_clue
  m_read_clue : mg "read_clue" = some (.ref f_read_clue)
  b_read_clue : L2.Binds K d_read_clue ["text"] []
  f__law_taken : Addr
  d__law_taken : FuncData
  v__law_taken : Value
  n__law_taken : Dn K "_law_taken" "_law_taken" s__law_taken f__law_taken d__law_taken v__law_taken
  m__law_taken : mg "_law_taken" = some (.ref f__law_taken)
  b__law_taken : L2.Binds K d__law_taken ["row", "many"] []
  f__law_pick : Addr
  d__law_pick : FuncData
  v__law_pick : Value
  n__law_pick : Dn K "_law_pick" "_law_pick" s__law_pick f__law_pick d__law_pick v__law_pick
  m__law_pick : mg "_law_pick" = some (.ref f__law_pick)
  b__law_pick : L2.Binds K d__law_pick ["row", "some"] []
  f__law_text : Addr
  d__law_text : FuncData
  v__law_text : Value
  n__law_text : Dn K "_law_text" "_law_text" s__law_text f__law_text d__law_text v__law_text
  m__law_text : mg "_law_text" = some (.ref f__law_text)
  b__law_text : L2.Binds K d__law_text ["row", "least", "most", "signs"] []
  f__law_clue : Addr
  d__law_clue : FuncData
  v__law_clue : Value
  n__law_clue : Dn K "_law_clue" "_law_clue" s__law_clue f__law_clue d__law_clue v__law_clue
  m__law_clue : mg "_law_clue" = some (.ref f__law_clue)
  b__law_clue : L2.Binds K d__law_clue ["row", "depth"] []
  f__law_alike : Addr
  d__law_alike : FuncData
  v__law_alike : Value
  n__law_alike : Dn K "_law_alike" "_law_alike" s__law_alike f__law_alike d__law_alike v__law_alike
  m__law_alike : mg "_law_alike" = some (.ref f__law_alike)
  b__law_alike : L2.Binds K d__law_alike ["found", "due"] []
  f__law_clue_text : Addr
  d__law_clue_text : FuncData
  v__law_clue_text : Value
  n__law_clue_text : Dn K "_law_clue_text" "_law_clue_text" s__law_clue_text f__law_clue_text d__law_clue_text v__law_clue_text
  m__law_clue_text : mg "_law_clue_text" = some (.ref f__law_clue_text)
  b__law_clue_text : L2.Binds K d__law_clue_text ["clue"] []
  f__law_no_clue : Addr
  d__law_no_clue : FuncData
  v__law_no_clue : Value
  n__law_no_clue : Dn K "_law_no_clue" "_law_no_clue" s__law_no_clue f__law_no_clue d__law_no_clue v__law_no_clue
  m__law_no_clue : mg "_law_no_clue" = some (.ref f__law_no_clue)
  b__law_no_clue : L2.Binds K d__law_no_clue ["row", "text"] []
  f__law_heard : Addr
  d__law_heard : FuncData
  v__law_heard : Value
  n__law_heard : Dn K "_law_heard" "_law_heard" s__law_heard f__law_heard d__law_heard v__law_heard
  m__law_heard : mg "_law_heard" = some (.ref f__law_heard)
  b__law_heard : L2.Binds K d__law_heard ["ask"] []
  f_law : Addr
  d_law : FuncData
  c_law : Addr
  q_law : Addr
  n_law : Dn K "law" "law" s_law f_law d_law (.ref c_law)
  m_law : mg "law" = some (.ref f_law)
  b_law : L2.Binds K d_law ["script"] []
  x_law : LamX.TabB base mg c_law q_law
  l_law : (q_law, ("law" : Str) ++ ".<locals>." ++ "<lambda>") ∈ gd.T
  u_law : ∀ p ∈ gd.T, p.1 = q_law → p.2 = ("law" : Str) ++ ".<locals>." ++ "<lambda>"
  z_all : mg "all" = none
  z_bool : mg "bool" = none
  z_dict : mg "dict" = none
  z_int : mg "int" = none
  z_isinstance : mg "isinstance" = none
  z_len : mg "len" = none
  z_list : mg "list" = none
  z_range : mg "range" = none
  z_str : mg "str" = none
  z_tuple : mg "tuple" = none
  k_ANY : ∃ t, mg "ANY" = some (.str (Str.ofString "?") t)
  k_BACK : ∃ t, mg "BACK" = some (.str (Str.ofString "back") t)
  k_BEGINS : ∃ t, mg "BEGINS" = some (.str (Str.ofString "begins") t)
  k_BOTH : ∃ t, mg "BOTH" = some (.str (Str.ofString "both") t)
  k_COUNT : ∃ t, mg "COUNT" = some (.str (Str.ofString "count") t)
  k_DIGITS : ∃ t, mg "DIGITS" = some (.str (Str.ofString "0123456789") t)
  k_EITHER : ∃ t, mg "EITHER" = some (.str (Str.ofString "either") t)
  k_ENDS : ∃ t, mg "ENDS" = some (.str (Str.ofString "ends") t)
  k_FROM : ∃ t, mg "FROM" = some (.str (Str.ofString "from") t)
  k_HOLDS : ∃ t, mg "HOLDS" = some (.str (Str.ofString "holds") t)
  k_LEAST_LETTERS : ∃ t, mg "LEAST_LETTERS" = some (.int 2 t)
  k_LETTERS : ∃ t, mg "LETTERS" = some (.str (Str.ofString "abcdefghijklmnopqrstuvwxyz") t)
  k_LIKE : ∃ t, mg "LIKE" = some (.str (Str.ofString "like") t)
  k_MOST_DEPTH : ∃ t, mg "MOST_DEPTH" = some (.int 4 t)
  k_MOST_LETTERS : ∃ t, mg "MOST_LETTERS" = some (.int 4 t)
  k_NOT : ∃ t, mg "NOT" = some (.str (Str.ofString "not") t)
  a_SIZES : Addr
  k_SIZES : mg "SIZES" = some (.ref a_SIZES)
  t_SIZES : TabD K w a_SIZES t_SIZES
  C_BadArgument : Addr
  fI_BadArgument : Addr
  dI_BadArgument : FuncData
  m_BadArgument : mg "BadArgument" = some (.ref C_BadArgument)
  e_BadArgument : OexC K C_BadArgument
  ei_BadArgument : PySem.W.findIn K (.ref C_BadArgument) "__init__" = some (some (.ref fI_BadArgument))
  et_BadArgument : PySem.W.typeIn K (.ref fI_BadArgument) = some (.type "function")
  ef_BadArgument : ∀ k, FnOk P w K mg base (L2.CX P w) (k + 1) fI_BadArgument dI_BadArgument ["self", "name"] (sp1 C_BadArgument "name")
  eb_BadArgument : L2.Binds K dI_BadArgument ["self", "name"] []
  cl_BadArgument : gd.cl "BadArgument" = some C_BadArgument
  C_CrossError : Addr
  C_Unfilled : Addr
  C_Refused : Addr
  C_Unread : Addr
  m_CrossError : mg "CrossError" = some (.ref C_CrossError)
  m_Unfilled : mg "Unfilled" = some (.ref C_Unfilled)
  m_Refused : mg "Refused" = some (.ref C_Refused)
  m_Unread : mg "Unread" = some (.ref C_Unread)
  z_ValueError : mg "ValueError" = none
  h_xf : XfC K C_BadArgument
  h_ex : ExcC K C_BadArgument
  h_no : PySem.W.findIn K (.ref C_BadArgument) "name" = some none
  h_kE : PySem.W.kitOne K (.ref C_BadArgument) (.ref C_CrossError) = some true
  h_kV : PySem.W.kitOne K (.ref C_BadArgument) (.type "ValueError") = some true
  h_x : PySem.W.exmOne K (.ref C_BadArgument) (.ref C_BadArgument) = some true
section
variable {P : Program} {w : World} {K : PySem.W.Frag} {mg : Str → Option Value} {base : Heap} {gd : Gd}

/-- the def that asks -/
theorem heard_law (M : Mo P w K mg base gd) {X : Cx} (eK : X.K = K) (eM : X.mg = mg) {q : Str} : LamX.GivesTo X ["ask", "e"] "_law_heard" (defScope s__law_heard) M.f__law_heard M.v__law_heard (defBody s__law_heard) "ask" q (TTh X.K M.C_BadArgument) := by
  subst eK eM
  exact heard_gives rfl rfl rfl rfl rfl rfl M.z_isinstance M.m_CrossError M.z_ValueError M.m_BadArgument rfl M.m_Unfilled (by decide) rfl M.m_Refused (by decide) rfl M.m_Unread (by decide) M.h_xf M.h_ex M.h_no M.h_kE M.h_kV M.h_x (fun _ _ _ _ => rfl)

/-- is_number -/
theorem ok_is_number (M : Mo P w K mg base gd) : FnOk P w K mg base (L2.CX P w) 8 M.f_is_number M.d_is_number ["value", "low", "high"] (spM K gd m_is_number) :=
  def_ok (k := 7) M.n_is_number sc_is_number rfl rfl (by decide) fun A outer s H E hr =>
  (SS_one (S_ret (R_and (R_isi (t := .int) rfl rfl rfl M.z_isinstance (R_var (i := 0) rfl (by first | exact Or.inl rfl | exact Or.inr (Or.inl rfl) | exact Or.inr (Or.inr rfl))) rfl M.z_int bt_int (by decide) (by decide)) (R_and (R_not (R_isi (t := .bool) rfl rfl rfl M.z_isinstance (R_var (i := 0) rfl (by first | exact Or.inl rfl | exact Or.inr (Or.inl rfl) | exact Or.inr (Or.inr rfl))) rfl M.z_bool bt_bool (by decide) (by decide))) (R_one (R_chain o_le o_le (R_var (i := 1) rfl (by first | exact Or.inl rfl | exact Or.inr (Or.inl rfl) | exact Or.inr (Or.inr rfl))) (R_var (i := 0) rfl (by first | exact Or.inl rfl | exact Or.inr (Or.inl rfl) | exact Or.inr (Or.inr rfl))) (R_var (i := 2) rfl (by first | exact Or.inl rfl | exact Or.inr (Or.inl rfl) | exact Or.inr (Or.inr rfl))) rfl))))))
/-- check -/
theorem ok_check (M : Mo P w K mg base gd) : FnOk P w K mg base (L2.CX P w) 8 M.f_check M.d_check ["is_right", "name"] (spM K gd m_check) :=
  def_ok (k := 7) M.n_check sc_check rfl rfl (by decide) fun A outer s H E hr =>
  (SS_one (S_if (R_tnot (T_val (R_var (i := 0) rfl (by first | exact Or.inl rfl | exact Or.inr (Or.inl rfl) | exact Or.inr (Or.inr rfl))))) (SS_one (S_raise1 rfl M.e_BadArgument M.ei_BadArgument M.et_BadArgument (M.ef_BadArgument 1) (hr.mono (by omega)) M.eb_BadArgument passL rfl M.m_BadArgument (takes_of rfl rfl rfl rfl) M.cl_BadArgument rfl (R_var (i := 1) rfl (by first | exact Or.inl rfl | exact Or.inr (Or.inl rfl) | exact Or.inr (Or.inr rfl))))) SS_nil))
/-- is_text_of -/
theorem ok_is_text_of (M : Mo P w K mg base gd) : FnOk P w K mg base (L2.CX P w) 8 M.f_is_text_of M.d_is_text_of ["value", "least", "most", "signs"] (spM K gd m_is_text_of) :=
  def_ok (k := 7) M.n_is_text_of sc_is_text_of rfl rfl (by decide) fun A outer s H E hr =>
  (SS_one (S_ret (R_and (R_isi (t := .str) rfl rfl rfl M.z_isinstance (R_var (i := 0) rfl (by first | exact Or.inl rfl | exact Or.inr (Or.inl rfl) | exact Or.inr (Or.inr rfl))) rfl M.z_str bt_str (by decide) (by decide)) (R_and (R_chain o_le o_le (R_var (i := 1) rfl (by first | exact Or.inl rfl | exact Or.inr (Or.inl rfl) | exact Or.inr (Or.inr rfl))) (R_callB o_len rfl M.z_len PySem.boot_len (R_var (i := 0) rfl (by first | exact Or.inl rfl | exact Or.inr (Or.inl rfl) | exact Or.inr (Or.inr rfl)))) (R_var (i := 2) rfl (by first | exact Or.inl rfl | exact Or.inr (Or.inl rfl) | exact Or.inr (Or.inr rfl))) rfl) (R_one (R_all (k := _) (own := [("sign", 4)]) ⟨hr, M.x_is_text_of, rfl, sc_is_text_of.nd, rfl, M.y_is_text_of, M.o_is_text_of⟩ rfl M.z_all (blkOk_by (N := ["value", "least", "most", "signs", "sign"]) (sc := defScope s_is_text_of) (by decide +kernel)) (gxS_by (by decide +kernel)) (by decide) (I_src (R_var (i := 0) rfl (by first | exact Or.inl rfl | exact Or.inr (Or.inl rfl) | exact Or.inr (Or.inr rfl)))) (fun _ _ _ _ _ => (G_var (i := 4) sc_is_text_of.nd rfl (by first | exact Or.inl rfl | exact Or.inr rfl) (by first | exact Or.inl rfl | exact Or.inr rfl))) (fun _ _ _ _ _ => (R_cmp o_in (R_var (i := 4) rfl (by first | exact Or.inl rfl | exact Or.inr (Or.inl rfl) | exact Or.inr (Or.inr rfl))) (R_var (i := 3) rfl (by first | exact Or.inl rfl | exact Or.inr (Or.inl rfl) | exact Or.inr (Or.inr rfl))) (by with_unfolding_all rfl)))))))))
/-- is_word -/
theorem ok_is_word (M : Mo P w K mg base gd) : FnOk P w K mg base (L2.CX P w) 13 M.f_is_word M.d_is_word ["value"] (spM K gd m_is_word) :=
  def_ok (k := 12) M.n_is_word sc_is_word rfl rfl (by decide) fun A outer s H E hr =>
  (SS_one (S_ret (R_call (ok_is_text_of M) (hr.mono (by omega)) rfl M.m_is_text_of M.n_is_text_of.kp M.b_is_text_of (passes_call (takes_of rfl rfl rfl rfl) fun _ _ _ _ h => h) (A_cons (R_var (i := 0) rfl (by first | exact Or.inl rfl | exact Or.inr (Or.inl rfl) | exact Or.inr (Or.inr rfl))) (A_cons (R_gint rfl M.k_LEAST_LETTERS) (A_cons (R_gint rfl M.k_MOST_LETTERS) (A_cons (R_gstr rfl M.k_LETTERS) A_nil)))))))
/-- is_pattern -/
theorem ok_is_pattern (M : Mo P w K mg base gd) : FnOk P w K mg base (L2.CX P w) 13 M.f_is_pattern M.d_is_pattern ["value"] (spM K gd m_is_pattern) :=
  def_ok (k := 12) M.n_is_pattern sc_is_pattern rfl rfl (by decide) fun A outer s H E hr =>
  (SS_one (S_ret (R_call (ok_is_text_of M) (hr.mono (by omega)) rfl M.m_is_text_of M.n_is_text_of.kp M.b_is_text_of (passes_call (takes_of rfl rfl rfl rfl) fun _ _ _ _ h => h) (A_cons (R_var (i := 0) rfl (by first | exact Or.inl rfl | exact Or.inr (Or.inl rfl) | exact Or.inr (Or.inr rfl))) (A_cons (R_gint rfl M.k_LEAST_LETTERS) (A_cons (R_gint rfl M.k_MOST_LETTERS) (A_cons (R_bin o_add (R_gstr rfl M.k_LETTERS) (R_gstr rfl M.k_ANY)) A_nil)))))))
/-- is_clue_of -/
theorem ok_is_clue_of (M : Mo P w K mg base gd) : ∀ n : Nat, FnOk P w K mg base (L2.CX P w) (18 + 3 * n) M.f_is_clue_of M.d_is_clue_of ["value", "depth"] (spM K gd (m_is_clue_of n))
  | 0 => fn_no
  | n + 1 => by
    have ih := ok_is_clue_of M n
    exact def_ok (k := 18 + 3 * n + 2) M.n_is_clue_of sc_is_clue_of rfl rfl (by decide) fun A outer s H E hr =>
  (SS_cons (S_if (PW.pt (R_tor (R_tnot (T_val (R_isi (t := .tuple) rfl rfl rfl M.z_isinstance (R_var (i := 0) rfl (by first | exact Or.inl rfl | exact Or.inr (Or.inl rfl) | exact Or.inr (Or.inr rfl))) rfl M.z_tuple bt_tuple (by decide) (by decide)))) (R_tor (pt_cmpM (o_eq hr.units) bool_eq (R_callB o_len rfl M.z_len PySem.boot_len (R_var (i := 0) rfl (by first | exact Or.inl rfl | exact Or.inr (Or.inl rfl) | exact Or.inr (Or.inr rfl)))) R_int (nomark _)) (R_tor (R_tnot (T_val (R_isi (t := .str) rfl rfl rfl M.z_isinstance (R_idx (R_var (i := 0) rfl (by first | exact Or.inl rfl | exact Or.inr (Or.inl rfl) | exact Or.inr (Or.inr rfl))) R_int (fun _ _ => rfl)) rfl M.z_str bt_str (by decide) (by decide)))) (R_tor1 (pt_cmpM (o_eq hr.units) bool_eq (R_var (i := 1) rfl (by first | exact Or.inl rfl | exact Or.inr (Or.inl rfl) | exact Or.inr (Or.inr rfl))) R_int (nomark _))))))) (SS_one (S_ret R_bl)) SS_nil)
  (SS_cons (S_set (i := 2) sc_is_clue_of.nd rfl (by first | exact Or.inl rfl | exact Or.inr rfl) (R_idx (R_var (i := 0) rfl (by first | exact Or.inl rfl | exact Or.inr (Or.inl rfl) | exact Or.inr (Or.inr rfl))) R_int (fun _ _ => rfl)))
  (SS_cons (S_if (PW.pt (R_tor (T_notInTab M.t_SIZES rfl M.k_SIZES (R_var (i := 2) rfl (by first | exact Or.inl rfl | exact Or.inr (Or.inl rfl) | exact Or.inr (Or.inr rfl))) (by decide) (by with_unfolding_all rfl)) (R_tor1 (pt_cmpM (o_ne hr.units) bool_ne (R_callB o_len rfl M.z_len PySem.boot_len (R_var (i := 0) rfl (by first | exact Or.inl rfl | exact Or.inr (Or.inl rfl) | exact Or.inr (Or.inr rfl)))) (R_getTab M.t_SIZES rfl M.k_SIZES (R_var (i := 2) rfl (by first | exact Or.inl rfl | exact Or.inr (Or.inl rfl) | exact Or.inr (Or.inr rfl))) (by decide) (fun _ _ => rfl)) (nomark _))))) (SS_one (S_ret R_bl)) SS_nil)
  (SS_cons (S_if (pt_cmpM o_in bool_in (R_var (i := 2) rfl (by first | exact Or.inl rfl | exact Or.inr (Or.inl rfl) | exact Or.inr (Or.inr rfl))) (R_tup (A_cons (R_gstr rfl M.k_NOT) (A_cons (R_gstr rfl M.k_BOTH) (A_cons (R_gstr rfl M.k_EITHER) A_nil)))) (by with_unfolding_all rfl)) (SS_one (S_ret (R_all (k := _) (own := [("own", 3)]) ⟨hr, M.x_is_clue_of, rfl, sc_is_clue_of.nd, rfl, M.y_is_clue_of, M.o_is_clue_of⟩ rfl M.z_all (blkOk_by (N := ["value", "depth", "kind", "own"]) (sc := defScope s_is_clue_of) (by decide +kernel)) (gxS_by (by decide +kernel)) (by decide) (I_src (R_slice (R_var (i := 0) rfl (by first | exact Or.inl rfl | exact Or.inr (Or.inl rfl) | exact Or.inr (Or.inr rfl))) (.inr ⟨_, _, rfl, rfl, R_int⟩) (.inl ⟨rfl, rfl⟩))) (fun _ _ _ _ _ => (G_var (i := 3) sc_is_clue_of.nd rfl (by first | exact Or.inl rfl | exact Or.inr rfl) (by first | exact Or.inl rfl | exact Or.inr rfl))) (fun _ _ _ _ _ => (R_call ih ((gx_room hr).mono (by omega)) rfl M.m_is_clue_of M.n_is_clue_of.kp M.b_is_clue_of passL (A_cons (R_var (i := 3) rfl (by first | exact Or.inl rfl | exact Or.inr (Or.inl rfl) | exact Or.inr (Or.inr rfl))) (A_cons (R_bin o_sub (R_var (i := 1) rfl (by first | exact Or.inl rfl | exact Or.inr (Or.inl rfl) | exact Or.inr (Or.inr rfl))) R_int) A_nil))))))) SS_nil)
  (SS_cons (S_if (pt_cmpM (o_eq hr.units) bool_eq (R_var (i := 2) rfl (by first | exact Or.inl rfl | exact Or.inr (Or.inl rfl) | exact Or.inr (Or.inr rfl))) (R_gstr rfl M.k_LIKE) (nomark _)) (SS_one (S_ret (R_call (ok_is_pattern M) (hr.mono (by omega)) rfl M.m_is_pattern M.n_is_pattern.kp M.b_is_pattern (passes_call (takes_of rfl rfl rfl rfl) fun _ _ _ _ h => h) (A_cons (R_idx (R_var (i := 0) rfl (by first | exact Or.inl rfl | exact Or.inr (Or.inl rfl) | exact Or.inr (Or.inr rfl))) R_int (fun _ _ => rfl)) A_nil)))) SS_nil)
  (SS_cons (S_if (pt_cmpM o_in bool_in (R_var (i := 2) rfl (by first | exact Or.inl rfl | exact Or.inr (Or.inl rfl) | exact Or.inr (Or.inr rfl))) (R_tup (A_cons (R_gstr rfl M.k_BEGINS) (A_cons (R_gstr rfl M.k_ENDS) (A_cons (R_gstr rfl M.k_HOLDS) A_nil)))) (by with_unfolding_all rfl)) (SS_one (S_ret (R_call (ok_is_text_of M) (hr.mono (by omega)) rfl M.m_is_text_of M.n_is_text_of.kp M.b_is_text_of (passes_call (takes_of rfl rfl rfl rfl) fun _ _ _ _ h => h) (A_cons (R_idx (R_var (i := 0) rfl (by first | exact Or.inl rfl | exact Or.inr (Or.inl rfl) | exact Or.inr (Or.inr rfl))) R_int (fun _ _ => rfl)) (A_cons R_int (A_cons (R_gint rfl M.k_MOST_LETTERS) (A_cons (R_gstr rfl M.k_LETTERS) A_nil))))))) SS_nil)
  (SS_cons (S_if (pt_cmpM (o_eq hr.units) bool_eq (R_var (i := 2) rfl (by first | exact Or.inl rfl | exact Or.inr (Or.inl rfl) | exact Or.inr (Or.inr rfl))) (R_gstr rfl M.k_COUNT) (nomark _)) (SS_one (S_ret (R_and (R_call (ok_is_text_of M) (hr.mono (by omega)) rfl M.m_is_text_of M.n_is_text_of.kp M.b_is_text_of (passes_call (takes_of rfl rfl rfl rfl) fun _ _ _ _ h => h) (A_cons (R_idx (R_var (i := 0) rfl (by first | exact Or.inl rfl | exact Or.inr (Or.inl rfl) | exact Or.inr (Or.inr rfl))) R_int (fun _ _ => rfl)) (A_cons R_int (A_cons R_int (A_cons (R_gstr rfl M.k_LETTERS) A_nil))))) (R_one (R_call (ok_is_number M) (hr.mono (by omega)) rfl M.m_is_number M.n_is_number.kp M.b_is_number (passes_call (takes_of rfl rfl rfl rfl) fun _ _ _ _ h => h) (A_cons (R_idx (R_var (i := 0) rfl (by first | exact Or.inl rfl | exact Or.inr (Or.inl rfl) | exact Or.inr (Or.inr rfl))) R_int (fun _ _ => rfl)) (A_cons R_int (A_cons (R_gint rfl M.k_MOST_LETTERS) A_nil)))))))) SS_nil)
  (SS_cons (S_if (pt_cmpM (o_eq hr.units) bool_eq (R_var (i := 2) rfl (by first | exact Or.inl rfl | exact Or.inr (Or.inl rfl) | exact Or.inr (Or.inr rfl))) (R_gstr rfl M.k_FROM) (nomark _)) (SS_one (S_ret (R_and (R_call (ok_is_text_of M) (hr.mono (by omega)) rfl M.m_is_text_of M.n_is_text_of.kp M.b_is_text_of (passes_call (takes_of rfl rfl rfl rfl) fun _ _ _ _ h => h) (A_cons (R_idx (R_var (i := 0) rfl (by first | exact Or.inl rfl | exact Or.inr (Or.inl rfl) | exact Or.inr (Or.inr rfl))) R_int (fun _ _ => rfl)) (A_cons R_int (A_cons (R_gint rfl M.k_MOST_LETTERS) (A_cons (R_gstr rfl M.k_LETTERS) A_nil))))) (R_one (R_call (ok_is_text_of M) (hr.mono (by omega)) rfl M.m_is_text_of M.n_is_text_of.kp M.b_is_text_of (passes_call (takes_of rfl rfl rfl rfl) fun _ _ _ _ h => h) (A_cons (R_idx (R_var (i := 0) rfl (by first | exact Or.inl rfl | exact Or.inr (Or.inl rfl) | exact Or.inr (Or.inr rfl))) R_int (fun _ _ => rfl)) (A_cons R_int (A_cons (R_gint rfl M.k_MOST_LETTERS) (A_cons (R_gstr rfl M.k_LETTERS) A_nil))))))))) SS_nil)
  (SS_one (S_ret (R_ifx (pt_cmpM (o_eq hr.units) bool_eq (R_var (i := 2) rfl (by first | exact Or.inl rfl | exact Or.inr (Or.inl rfl) | exact Or.inr (Or.inr rfl))) (R_gstr rfl M.k_BACK) (nomark _)) (R_call (ok_is_word M) (hr.mono (by omega)) rfl M.m_is_word M.n_is_word.kp M.b_is_word (passes_call (takes_of rfl rfl rfl rfl) fun _ _ _ _ h => h) (A_cons (R_idx (R_var (i := 0) rfl (by first | exact Or.inl rfl | exact Or.inr (Or.inl rfl) | exact Or.inr (Or.inr rfl))) R_int (fun _ _ => rfl)) A_nil)) R_bl)))))))))))
/-- is_clue -/
theorem ok_is_clue (M : Mo P w K mg base gd) : FnOk P w K mg base (L2.CX P w) 47 M.f_is_clue M.d_is_clue ["value"] (spM K gd m_is_clue) :=
  def_ok (k := 46) M.n_is_clue sc_is_clue rfl rfl (by decide) fun A outer s H E hr =>
  (SS_one (S_ret (R_call (ok_is_clue_of M 8) (hr.mono (by omega)) rfl M.m_is_clue_of M.n_is_clue_of.kp M.b_is_clue_of (passes_call (takes_of rfl rfl rfl rfl) fun _ _ _ _ h => h) (A_cons (R_var (i := 0) rfl (by first | exact Or.inl rfl | exact Or.inr (Or.inl rfl) | exact Or.inr (Or.inr rfl))) (A_cons (R_gint rfl M.k_MOST_DEPTH) A_nil)))))
/-- clue_words -/
theorem ok_clue_words (M : Mo P w K mg base gd) : ∀ n : Nat, FnOk P w K mg base (L2.CX P w) (8 + 3 * n) M.f_clue_words M.d_clue_words ["clue"] (spM K gd (m_clue_words n))
  | 0 => fn_no
  | n + 1 => by
    have ih := ok_clue_words M n
    exact def_ok (k := 8 + 3 * n + 2) M.n_clue_words sc_clue_words rfl rfl (by decide) fun A outer s H E hr =>
  (SS_cons (S_own (i := 1) sc_clue_words.nd rfl (by first | exact Or.inl rfl | exact Or.inr rfl) (A_cons (R_idx (R_var (i := 0) rfl (by first | exact Or.inl rfl | exact Or.inr (Or.inl rfl) | exact Or.inr (Or.inr rfl))) R_int (fun _ _ => rfl)) A_nil))
  (SS_cons (S_for (passes_of rfl) rfl GOk_var (I_src (R_slice (R_var (i := 0) rfl (by first | exact Or.inl rfl | exact Or.inr (Or.inl rfl) | exact Or.inr (Or.inr rfl))) (.inr ⟨_, _, rfl, rfl, R_int⟩) (.inl ⟨rfl, rfl⟩))) (G_var (i := 2) sc_clue_words.nd rfl (by first | exact Or.inl rfl | exact Or.inr rfl) (by first | exact Or.inl rfl | exact Or.inr rfl)) (SS_one (S_ext (i := 1) rfl (by first | exact Or.inl rfl | exact Or.inr (Or.inl rfl) | exact Or.inr (Or.inr rfl)) (R_ifx (T_val (R_isi (t := .tuple) rfl rfl rfl M.z_isinstance (R_var (i := 2) rfl (by first | exact Or.inl rfl | exact Or.inr (Or.inl rfl) | exact Or.inr (Or.inr rfl))) rfl M.z_tuple bt_tuple (by decide) (by decide))) (R_call ih (hr.mono (by omega)) rfl M.m_clue_words M.n_clue_words.kp M.b_clue_words (passes_call (takes_of rfl rfl rfl rfl) fun _ _ _ _ h => h) (A_cons (R_var (i := 2) rfl (by first | exact Or.inl rfl | exact Or.inr (Or.inl rfl) | exact Or.inr (Or.inr rfl))) A_nil)) (R_lst (A_cons (R_fs1 (R_var (i := 2) rfl (by first | exact Or.inl rfl | exact Or.inr (Or.inl rfl) | exact Or.inr (Or.inr rfl)))) A_nil))))))
  (SS_one (S_frz (S_ret (R_var (i := 1) rfl (by first | exact Or.inl rfl | exact Or.inr (Or.inl rfl) | exact Or.inr (Or.inr rfl))))))))
/-- clue_text -/
theorem ok_clue_text (M : Mo P w K mg base gd) : FnOk P w K mg base (L2.CX P w) 52 M.f_clue_text M.d_clue_text ["clue"] (spM K gd m_clue_text) :=
  def_ok (k := 51) M.n_clue_text sc_clue_text rfl rfl (by decide) fun A outer s H E hr =>
  (SS_cons (S_expr (R_call (ok_check M) (hr.mono (by omega)) rfl M.m_check M.n_check.kp M.b_check (passes_call (takes_of rfl rfl rfl rfl) fun _ _ _ _ h => h) (A_cons (R_call (ok_is_clue M) (hr.mono (by omega)) rfl M.m_is_clue M.n_is_clue.kp M.b_is_clue (passes_call (takes_of rfl rfl rfl rfl) fun _ _ _ _ h => h) (A_cons (R_var (i := 0) rfl (by first | exact Or.inl rfl | exact Or.inr (Or.inl rfl) | exact Or.inr (Or.inr rfl))) A_nil)) (A_cons R_str A_nil))))
  (SS_one (S_ret (R_join R_str (R_call (ok_clue_words M 8) (hr.mono (by omega)) rfl M.m_clue_words M.n_clue_words.kp M.b_clue_words (passes_call (takes_of rfl rfl rfl rfl) fun _ _ _ _ h => h) (A_cons (R_var (i := 0) rfl (by first | exact Or.inl rfl | exact Or.inr (Or.inl rfl) | exact Or.inr (Or.inr rfl))) A_nil))))))
/-- number_in -/
theorem ok_number_in (M : Mo P w K mg base gd) : FnOk P w K mg base (L2.CX P w) 8 M.f_number_in M.d_number_in ["word", "least", "most"] (spM K gd m_number_in) :=
  def_ok (k := 7) M.n_number_in sc_number_in rfl rfl (by decide) fun A outer s H E hr =>
  (SS_cons (S_set (i := 3) sc_number_in.nd rfl (by first | exact Or.inl rfl | exact Or.inr rfl) (R_ifx (PW.pt (R_tand (pt_cmpM (o_eq hr.units) bool_eq (R_callB o_len rfl M.z_len PySem.boot_len (R_var (i := 0) rfl (by first | exact Or.inl rfl | exact Or.inr (Or.inl rfl) | exact Or.inr (Or.inr rfl)))) R_int (nomark _)) (R_tand1 (pt_cmpM o_in bool_in (R_var (i := 0) rfl (by first | exact Or.inl rfl | exact Or.inr (Or.inl rfl) | exact Or.inr (Or.inr rfl))) (R_gstr rfl M.k_DIGITS) (by with_unfolding_all rfl))))) (R_index (R_gstr rfl M.k_DIGITS) (R_var (i := 0) rfl (by first | exact Or.inl rfl | exact Or.inr (Or.inl rfl) | exact Or.inr (Or.inr rfl)))) R_neg))
  (SS_one (S_ret (R_ifx (T_chain o_le o_le bool_cmp (R_var (i := 1) rfl (by first | exact Or.inl rfl | exact Or.inr (Or.inl rfl) | exact Or.inr (Or.inr rfl))) (R_var (i := 3) rfl (by first | exact Or.inl rfl | exact Or.inr (Or.inl rfl) | exact Or.inr (Or.inr rfl))) (R_var (i := 2) rfl (by first | exact Or.inl rfl | exact Or.inr (Or.inl rfl) | exact Or.inr (Or.inr rfl))) rfl) (R_var (i := 3) rfl (by first | exact Or.inl rfl | exact Or.inr (Or.inl rfl) | exact Or.inr (Or.inr rfl))) R_neg))))
/-- read_word -/
theorem ok_read_word (M : Mo P w K mg base gd) : FnOk P w K mg base (L2.CX P w) 13 M.f_read_word M.d_read_word ["kind", "words"] (spM K gd m_read_word) :=
  def_ok (k := 12) M.n_read_word sc_read_word rfl rfl (by decide) fun A outer s H E hr =>
  (SS_cons (S_set (i := 2) sc_read_word.nd rfl (by first | exact Or.inl rfl | exact Or.inr rfl) (R_bin o_sub (R_getTab M.t_SIZES rfl M.k_SIZES (R_var (i := 0) rfl (by first | exact Or.inl rfl | exact Or.inr (Or.inl rfl) | exact Or.inr (Or.inr rfl))) (by decide) (fun _ _ => rfl)) R_int))
  (SS_cons (S_if (pt_cmpM o_lt bool_cmp (R_callB o_len rfl M.z_len PySem.boot_len (R_var (i := 1) rfl (by first | exact Or.inl rfl | exact Or.inr (Or.inl rfl) | exact Or.inr (Or.inr rfl)))) (R_var (i := 2) rfl (by first | exact Or.inl rfl | exact Or.inr (Or.inl rfl) | exact Or.inr (Or.inr rfl))) (nomark _)) (SS_one (S_ret R_non)) SS_nil)
  (SS_cons (S_set (i := 3) sc_read_word.nd rfl (by first | exact Or.inl rfl | exact Or.inr rfl) (R_bin o_add (R_tup (A_cons (R_var (i := 0) rfl (by first | exact Or.inl rfl | exact Or.inr (Or.inl rfl) | exact Or.inr (Or.inr rfl))) A_nil)) (R_callTy o_tuple rfl M.z_tuple bt_tuple (R_slice (R_var (i := 1) rfl (by first | exact Or.inl rfl | exact Or.inr (Or.inl rfl) | exact Or.inr (Or.inr rfl))) (.inl ⟨rfl, rfl⟩) (.inr ⟨_, _, rfl, rfl, (R_var (i := 2) rfl (by first | exact Or.inl rfl | exact Or.inr (Or.inl rfl) | exact Or.inr (Or.inr rfl)))⟩)))))
  (SS_cons (S_if (pt_cmpM (o_eq hr.units) bool_eq (R_var (i := 0) rfl (by first | exact Or.inl rfl | exact Or.inr (Or.inl rfl) | exact Or.inr (Or.inr rfl))) (R_gstr rfl M.k_COUNT) (nomark _)) (SS_one (S_set (i := 3) sc_read_word.nd rfl (by first | exact Or.inl rfl | exact Or.inr rfl) (R_tup (A_cons (R_var (i := 0) rfl (by first | exact Or.inl rfl | exact Or.inr (Or.inl rfl) | exact Or.inr (Or.inr rfl))) (A_cons (R_idx (R_var (i := 1) rfl (by first | exact Or.inl rfl | exact Or.inr (Or.inl rfl) | exact Or.inr (Or.inr rfl))) R_int (fun _ _ => rfl)) (A_cons (R_call (ok_number_in M) (hr.mono (by omega)) rfl M.m_number_in M.n_number_in.kp M.b_number_in (passes_call (takes_of rfl rfl rfl rfl) fun _ _ _ _ h => h) (A_cons (R_idx (R_var (i := 1) rfl (by first | exact Or.inl rfl | exact Or.inr (Or.inl rfl) | exact Or.inr (Or.inr rfl))) R_int (fun _ _ => rfl)) (A_cons R_int (A_cons (R_gint rfl M.k_MOST_LETTERS) A_nil)))) A_nil)))))) SS_nil)
  (SS_one (S_ret (R_tup (A_cons (R_var (i := 3) rfl (by first | exact Or.inl rfl | exact Or.inr (Or.inl rfl) | exact Or.inr (Or.inr rfl))) (A_cons (R_slice (R_var (i := 1) rfl (by first | exact Or.inl rfl | exact Or.inr (Or.inl rfl) | exact Or.inr (Or.inr rfl))) (.inr ⟨_, _, rfl, rfl, (R_var (i := 2) rfl (by first | exact Or.inl rfl | exact Or.inr (Or.inl rfl) | exact Or.inr (Or.inr rfl)))⟩) (.inl ⟨rfl, rfl⟩)) A_nil)))))))))
/-- read_clue_from -/
theorem ok_read_clue_from (M : Mo P w K mg base gd) : ∀ n : Nat, FnOk P w K mg base (L2.CX P w) (18 + 3 * n) M.f_read_clue_from M.d_read_clue_from ["words", "depth"] (spM K gd (m_read_clue_from n))
  | 0 => fn_no
  | n + 1 => by
    have ih := ok_read_clue_from M n
    exact def_ok (k := 18 + 3 * n + 2) M.n_read_clue_from sc_read_clue_from rfl rfl (by decide) fun A outer s H E hr =>
  (SS_cons (S_if (PW.pt (R_tor (pt_cmpM (o_eq hr.units) bool_eq (R_callB o_len rfl M.z_len PySem.boot_len (R_var (i := 0) rfl (by first | exact Or.inl rfl | exact Or.inr (Or.inl rfl) | exact Or.inr (Or.inr rfl)))) R_int (nomark _)) (R_tor (T_notInTab M.t_SIZES rfl M.k_SIZES (R_idx (R_var (i := 0) rfl (by first | exact Or.inl rfl | exact Or.inr (Or.inl rfl) | exact Or.inr (Or.inr rfl))) R_int (fun _ _ => rfl)) (by decide) (by with_unfolding_all rfl)) (R_tor1 (pt_cmpM (o_eq hr.units) bool_eq (R_var (i := 1) rfl (by first | exact Or.inl rfl | exact Or.inr (Or.inl rfl) | exact Or.inr (Or.inr rfl))) R_int (nomark _)))))) (SS_one (S_ret R_non)) SS_nil)
  (SS_cons (S_par rfl sc_read_clue_from.nd (i := 2) (j := 3) rfl rfl (by decide) rfl rfl (R_idx (R_var (i := 0) rfl (by first | exact Or.inl rfl | exact Or.inr (Or.inl rfl) | exact Or.inr (Or.inr rfl))) R_int (fun _ _ => rfl)) (R_slice (R_var (i := 0) rfl (by first | exact Or.inl rfl | exact Or.inr (Or.inl rfl) | exact Or.inr (Or.inr rfl))) (.inr ⟨_, _, rfl, rfl, R_int⟩) (.inl ⟨rfl, rfl⟩)) (by rfl))
  (SS_cons (S_if (pt_cmpM o_notin bool_notin (R_var (i := 2) rfl (by first | exact Or.inl rfl | exact Or.inr (Or.inl rfl) | exact Or.inr (Or.inr rfl))) (R_tup (A_cons (R_gstr rfl M.k_NOT) (A_cons (R_gstr rfl M.k_BOTH) (A_cons (R_gstr rfl M.k_EITHER) A_nil)))) (by with_unfolding_all rfl)) (SS_one (S_ret (R_call (ok_read_word M) (hr.mono (by omega)) rfl M.m_read_word M.n_read_word.kp M.b_read_word (passes_call (takes_of rfl rfl rfl rfl) fun _ _ _ _ h => h) (A_cons (R_var (i := 2) rfl (by first | exact Or.inl rfl | exact Or.inr (Or.inl rfl) | exact Or.inr (Or.inr rfl))) (A_cons (R_var (i := 3) rfl (by first | exact Or.inl rfl | exact Or.inr (Or.inl rfl) | exact Or.inr (Or.inr rfl))) A_nil))))) SS_nil)
  (SS_cons (S_own (i := 4) sc_read_clue_from.nd rfl (by first | exact Or.inl rfl | exact Or.inr rfl) (A_cons (R_var (i := 2) rfl (by first | exact Or.inl rfl | exact Or.inr (Or.inl rfl) | exact Or.inr (Or.inr rfl))) A_nil))
  (SS_cons (S_for (passes_of rfl) rfl GOk_var (I_range1 rfl M.z_range (R_bin o_sub (R_getTab M.t_SIZES rfl M.k_SIZES (R_var (i := 2) rfl (by first | exact Or.inl rfl | exact Or.inr (Or.inl rfl) | exact Or.inr (Or.inr rfl))) (by decide) (fun _ _ => rfl)) R_int)) (G_var (i := 5) sc_read_clue_from.nd rfl (by first | exact Or.inl rfl | exact Or.inr rfl) (by first | exact Or.inl rfl | exact Or.inr rfl)) (SS_cons (S_set (i := 6) sc_read_clue_from.nd rfl (by first | exact Or.inl rfl | exact Or.inr rfl) (R_call ih (hr.mono (by omega)) rfl M.m_read_clue_from M.n_read_clue_from.kp M.b_read_clue_from (passes_call (takes_of rfl rfl rfl rfl) fun _ _ _ _ h => h) (A_cons (R_var (i := 3) rfl (by first | exact Or.inl rfl | exact Or.inr (Or.inl rfl) | exact Or.inr (Or.inr rfl))) (A_cons (R_bin o_sub (R_var (i := 1) rfl (by first | exact Or.inl rfl | exact Or.inr (Or.inl rfl) | exact Or.inr (Or.inr rfl))) R_int) A_nil))))
  (SS_cons (S_if (T_isN (R_var (i := 6) rfl (by first | exact Or.inl rfl | exact Or.inr (Or.inl rfl) | exact Or.inr (Or.inr rfl)))) (SS_one (S_ret R_non)) SS_nil)
  (SS_cons (S_app (i := 4) rfl (by first | exact Or.inl rfl | exact Or.inr (Or.inl rfl) | exact Or.inr (Or.inr rfl)) (R_idx (R_var (i := 6) rfl (by first | exact Or.inl rfl | exact Or.inr (Or.inl rfl) | exact Or.inr (Or.inr rfl))) R_int (fun _ _ => rfl)))
  (SS_one (S_set (i := 3) sc_read_clue_from.nd rfl (by first | exact Or.inl rfl | exact Or.inr rfl) (R_idx (R_var (i := 6) rfl (by first | exact Or.inl rfl | exact Or.inr (Or.inl rfl) | exact Or.inr (Or.inr rfl))) R_int (fun _ _ => rfl))))))))
  (SS_one (S_frz (S_ret (R_tup (A_cons (R_callTy o_tuple rfl M.z_tuple bt_tuple (R_var (i := 4) rfl (by first | exact Or.inl rfl | exact Or.inr (Or.inl rfl) | exact Or.inr (Or.inr rfl)))) (A_cons (R_var (i := 3) rfl (by first | exact Or.inl rfl | exact Or.inr (Or.inl rfl) | exact Or.inr (Or.inr rfl))) A_nil)))))))))))
/-- clue_in -/
theorem ok_clue_in (M : Mo P w K mg base gd) : FnOk P w K mg base (L2.CX P w) 52 M.f_clue_in M.d_clue_in ["words"] (spM K gd m_clue_in) :=
  def_ok (k := 51) M.n_clue_in sc_clue_in rfl rfl (by decide) fun A outer s H E hr =>
  (SS_cons (S_set (i := 1) sc_clue_in.nd rfl (by first | exact Or.inl rfl | exact Or.inr rfl) (R_call (ok_read_clue_from M 8) (hr.mono (by omega)) rfl M.m_read_clue_from M.n_read_clue_from.kp M.b_read_clue_from (passes_call (takes_of rfl rfl rfl rfl) fun _ _ _ _ h => h) (A_cons (R_var (i := 0) rfl (by first | exact Or.inl rfl | exact Or.inr (Or.inl rfl) | exact Or.inr (Or.inr rfl))) (A_cons (R_gint rfl M.k_MOST_DEPTH) A_nil))))
  (SS_one (S_ret (R_ifx (PW.pt (R_tand (T_notN (R_var (i := 1) rfl (by first | exact Or.inl rfl | exact Or.inr (Or.inl rfl) | exact Or.inr (Or.inr rfl)))) (R_tand (pt_cmpM (o_eq hr.units) bool_eq (R_callB o_len rfl M.z_len PySem.boot_len (R_idx (R_var (i := 1) rfl (by first | exact Or.inl rfl | exact Or.inr (Or.inl rfl) | exact Or.inr (Or.inr rfl))) R_int (fun _ _ => rfl))) R_int (nomark _)) (R_tand1 (T_val (R_call (ok_is_clue M) (hr.mono (by omega)) rfl M.m_is_clue M.n_is_clue.kp M.b_is_clue (passes_call (takes_of rfl rfl rfl rfl) fun _ _ _ _ h => h) (A_cons (R_idx (R_var (i := 1) rfl (by first | exact Or.inl rfl | exact Or.inr (Or.inl rfl) | exact Or.inr (Or.inr rfl))) R_int (fun _ _ => rfl)) A_nil))))))) (R_idx (R_var (i := 1) rfl (by first | exact Or.inl rfl | exact Or.inr (Or.inl rfl) | exact Or.inr (Or.inr rfl))) R_int (fun _ _ => rfl)) R_non))))
/-- read_clue -/
theorem ok_read_clue (M : Mo P w K mg base gd) : FnOk P w K mg base (L2.CX P w) 57 M.f_read_clue M.d_read_clue ["text"] (spM K gd m_read_clue) :=
  def_ok (k := 56) M.n_read_clue sc_read_clue rfl rfl (by decide) fun A outer s H E hr =>
  (SS_cons (S_expr (R_call (ok_check M) (hr.mono (by omega)) rfl M.m_check M.n_check.kp M.b_check (passes_call (takes_of rfl rfl rfl rfl) fun _ _ _ _ h => h) (A_cons (R_isi (t := .str) rfl rfl rfl M.z_isinstance (R_var (i := 0) rfl (by first | exact Or.inl rfl | exact Or.inr (Or.inl rfl) | exact Or.inr (Or.inr rfl))) rfl M.z_str bt_str (by decide) (by decide)) (A_cons R_str A_nil))))
  (SS_one (S_ret (R_call (ok_clue_in M) (hr.mono (by omega)) rfl M.m_clue_in M.n_clue_in.kp M.b_clue_in (passes_call (takes_of rfl rfl rfl rfl) fun _ _ _ _ h => h) (A_cons (R_split (R_var (i := 0) rfl (by first | exact Or.inl rfl | exact Or.inr (Or.inl rfl) | exact Or.inr (Or.inr rfl))) R_str) A_nil)))))
/-- _law_taken -/
theorem ok__law_taken (M : Mo P w K mg base gd) : FnOk P w K mg base (L2.CX P w) 8 M.f__law_taken M.d__law_taken ["row", "many"] (spM K gd m__law_taken) :=
  def_ok (k := 7) M.n__law_taken sc__law_taken rfl rfl (by decide) fun A outer s H E hr =>
  (SS_cons (S_if (pt_cmpM o_gt bool_cmp (R_idx (R_var (i := 0) rfl (by first | exact Or.inl rfl | exact Or.inr (Or.inl rfl) | exact Or.inr (Or.inr rfl))) R_int (fun _ _ => rfl)) R_int (nomark _)) (SS_cons (S_set (i := 3) sc__law_taken.nd rfl (by first | exact Or.inl rfl | exact Or.inr rfl) (R_bin o_mod (R_callTy o_int rfl M.z_int bt_int (R_idx (R_var (i := 0) rfl (by first | exact Or.inl rfl | exact Or.inr (Or.inl rfl) | exact Or.inr (Or.inr rfl))) R_int (fun _ _ => rfl))) (R_var (i := 1) rfl (by first | exact Or.inl rfl | exact Or.inr (Or.inl rfl) | exact Or.inr (Or.inr rfl)))))
  (SS_cons (S_setItem (R_var (i := 0) rfl (by first | exact Or.inl rfl | exact Or.inr (Or.inl rfl) | exact Or.inr (Or.inr rfl))) R_int (R_bin o_fdiv (R_idx (R_var (i := 0) rfl (by first | exact Or.inl rfl | exact Or.inr (Or.inl rfl) | exact Or.inr (Or.inr rfl))) R_int (fun _ _ => rfl)) (R_var (i := 1) rfl (by first | exact Or.inl rfl | exact Or.inr (Or.inl rfl) | exact Or.inr (Or.inr rfl)))))
  (SS_one (S_ret (R_var (i := 3) rfl (by first | exact Or.inl rfl | exact Or.inr (Or.inl rfl) | exact Or.inr (Or.inr rfl))))))) SS_nil)
  (SS_cons (S_setItem (R_var (i := 0) rfl (by first | exact Or.inl rfl | exact Or.inr (Or.inl rfl) | exact Or.inr (Or.inr rfl))) R_int (R_bin o_add (R_idx (R_var (i := 0) rfl (by first | exact Or.inl rfl | exact Or.inr (Or.inl rfl) | exact Or.inr (Or.inr rfl))) R_int (fun _ _ => rfl)) R_int))
  (SS_cons (S_if (pt_cmpM o_gt bool_cmp (R_idx (R_var (i := 0) rfl (by first | exact Or.inl rfl | exact Or.inr (Or.inl rfl) | exact Or.inr (Or.inr rfl))) R_int (fun _ _ => rfl)) (R_callB o_len rfl M.z_len PySem.boot_len (R_idx (R_var (i := 0) rfl (by first | exact Or.inl rfl | exact Or.inr (Or.inl rfl) | exact Or.inr (Or.inr rfl))) R_int (fun _ _ => rfl))) (nomark _)) (SS_cons (S_setItem (R_var (i := 0) rfl (by first | exact Or.inl rfl | exact Or.inr (Or.inl rfl) | exact Or.inr (Or.inr rfl))) R_int (R_bin o_mod (R_callTy o_int rfl M.z_int bt_int (R_bin o_add (R_bin o_mul (R_idx (R_var (i := 0) rfl (by first | exact Or.inl rfl | exact Or.inr (Or.inl rfl) | exact Or.inr (Or.inr rfl))) R_int (fun _ _ => rfl)) R_int) R_int)) R_int))
  (SS_one (S_ret (R_bin o_mod (R_callTy o_int rfl M.z_int bt_int (R_bin o_fdiv (R_idx (R_var (i := 0) rfl (by first | exact Or.inl rfl | exact Or.inr (Or.inl rfl) | exact Or.inr (Or.inr rfl))) R_int (fun _ _ => rfl)) R_int)) (R_var (i := 1) rfl (by first | exact Or.inl rfl | exact Or.inr (Or.inl rfl) | exact Or.inr (Or.inr rfl))))))) SS_nil)
  (SS_cons (S_set (i := 2) sc__law_taken.nd rfl (by first | exact Or.inl rfl | exact Or.inr rfl) (R_idx (R_idx (R_var (i := 0) rfl (by first | exact Or.inl rfl | exact Or.inr (Or.inl rfl) | exact Or.inr (Or.inr rfl))) R_int (fun _ _ => rfl)) (R_bin o_sub (R_idx (R_var (i := 0) rfl (by first | exact Or.inl rfl | exact Or.inr (Or.inl rfl) | exact Or.inr (Or.inr rfl))) R_int (fun _ _ => rfl)) R_int) (fun _ _ => rfl)))
  (SS_cons (S_setItem (R_var (i := 0) rfl (by first | exact Or.inl rfl | exact Or.inr (Or.inl rfl) | exact Or.inr (Or.inr rfl))) R_int (R_bin o_mod (R_callTy o_int rfl M.z_int bt_int (R_bin o_add (R_bin o_add (R_bin o_mul (R_idx (R_var (i := 0) rfl (by first | exact Or.inl rfl | exact Or.inr (Or.inl rfl) | exact Or.inr (Or.inr rfl))) R_int (fun _ _ => rfl)) R_int) (R_var (i := 2) rfl (by first | exact Or.inl rfl | exact Or.inr (Or.inl rfl) | exact Or.inr (Or.inr rfl)))) R_int)) R_int))
  (SS_cons (S_if (pt_cmpM o_ge bool_cmp (R_var (i := 2) rfl (by first | exact Or.inl rfl | exact Or.inr (Or.inl rfl) | exact Or.inr (Or.inr rfl))) (R_bin o_pow R_int R_int) (nomark _)) (SS_one (S_setItem (R_var (i := 0) rfl (by first | exact Or.inl rfl | exact Or.inr (Or.inl rfl) | exact Or.inr (Or.inr rfl))) R_int (R_bin o_fdiv (R_var (i := 2) rfl (by first | exact Or.inl rfl | exact Or.inr (Or.inl rfl) | exact Or.inr (Or.inr rfl))) (R_var (i := 1) rfl (by first | exact Or.inl rfl | exact Or.inr (Or.inl rfl) | exact Or.inr (Or.inr rfl)))))) SS_nil)
  (SS_one (S_ret (R_bin o_mod (R_callTy o_int rfl M.z_int bt_int (R_var (i := 2) rfl (by first | exact Or.inl rfl | exact Or.inr (Or.inl rfl) | exact Or.inr (Or.inr rfl)))) (R_var (i := 1) rfl (by first | exact Or.inl rfl | exact Or.inr (Or.inl rfl) | exact Or.inr (Or.inr rfl))))))))))))
/-- _law_pick -/
theorem ok__law_pick (M : Mo P w K mg base gd) : FnOk P w K mg base (L2.CX P w) 13 M.f__law_pick M.d__law_pick ["row", "some"] (spM K gd m__law_pick) :=
  def_ok (k := 12) M.n__law_pick sc__law_pick rfl rfl (by decide) fun A outer s H E hr =>
  (SS_one (S_ret (R_idx (R_var (i := 1) rfl (by first | exact Or.inl rfl | exact Or.inr (Or.inl rfl) | exact Or.inr (Or.inr rfl))) (R_call (ok__law_taken M) (hr.mono (by omega)) rfl M.m__law_taken M.n__law_taken.kp M.b__law_taken (passes_call (takes_of rfl rfl rfl rfl) fun _ _ _ _ h => h) (A_cons (R_var (i := 0) rfl (by first | exact Or.inl rfl | exact Or.inr (Or.inl rfl) | exact Or.inr (Or.inr rfl))) (A_cons (R_callB o_len rfl M.z_len PySem.boot_len (R_var (i := 1) rfl (by first | exact Or.inl rfl | exact Or.inr (Or.inl rfl) | exact Or.inr (Or.inr rfl)))) A_nil))) (fun _ _ => rfl))))
/-- _law_text -/
theorem ok__law_text (M : Mo P w K mg base gd) : FnOk P w K mg base (L2.CX P w) 13 M.f__law_text M.d__law_text ["row", "least", "most", "signs"] (spM K gd m__law_text) :=
  def_ok (k := 12) M.n__law_text sc__law_text rfl rfl (by decide) fun A outer s H E hr =>
  (SS_one (S_ret (R_join R_str (R_comp (own := [("turn", 4)]) rfl sc__law_text.nd (I_range1 rfl M.z_range (R_bin o_add (R_var (i := 1) rfl (by first | exact Or.inl rfl | exact Or.inr (Or.inl rfl) | exact Or.inr (Or.inr rfl))) (R_call (ok__law_taken M) (hr.mono (by omega)) rfl M.m__law_taken M.n__law_taken.kp M.b__law_taken (passes_call (takes_of rfl rfl rfl rfl) fun _ _ _ _ h => h) (A_cons (R_var (i := 0) rfl (by first | exact Or.inl rfl | exact Or.inr (Or.inl rfl) | exact Or.inr (Or.inr rfl))) (A_cons (R_bin o_add (R_bin o_sub (R_var (i := 2) rfl (by first | exact Or.inl rfl | exact Or.inr (Or.inl rfl) | exact Or.inr (Or.inr rfl))) (R_var (i := 1) rfl (by first | exact Or.inl rfl | exact Or.inr (Or.inl rfl) | exact Or.inr (Or.inr rfl)))) R_int) A_nil))))) (blkOk_by (N := ["row", "least", "most", "signs", "turn"]) (sc := defScope s__law_text) (by decide +kernel)) (by decide) (fun _ _ _ _ _ => (G_var (i := 4) sc__law_text.nd rfl (by first | exact Or.inl rfl | exact Or.inr rfl) (by first | exact Or.inl rfl | exact Or.inr rfl))) (fun _ _ _ _ _ => T_nil) (fun _ _ _ _ _ => (R_idx (R_var (i := 3) rfl (by first | exact Or.inl rfl | exact Or.inr (Or.inl rfl) | exact Or.inr (Or.inr rfl))) (R_call (ok__law_taken M) (hr.mono (by omega)) rfl M.m__law_taken M.n__law_taken.kp M.b__law_taken passL (A_cons (R_var (i := 0) rfl (by first | exact Or.inl rfl | exact Or.inr (Or.inl rfl) | exact Or.inr (Or.inr rfl))) (A_cons (R_callB o_len rfl M.z_len PySem.boot_len (R_var (i := 3) rfl (by first | exact Or.inl rfl | exact Or.inr (Or.inl rfl) | exact Or.inr (Or.inr rfl)))) A_nil))) (fun _ _ => rfl)))))))
/-- _law_clue -/
theorem ok__law_clue (M : Mo P w K mg base gd) : ∀ n : Nat, FnOk P w K mg base (L2.CX P w) (18 + 3 * n) M.f__law_clue M.d__law_clue ["row", "depth"] (spM K gd (m__law_clue n))
  | 0 => fn_no
  | n + 1 => by
    have ih := ok__law_clue M n
    exact def_ok (k := 18 + 3 * n + 2) M.n__law_clue sc__law_clue rfl rfl (by decide) fun A outer s H E hr =>
  (SS_cons (S_set (i := 2) sc__law_clue.nd rfl (by first | exact Or.inl rfl | exact Or.inr rfl) (R_lst (A_cons R_str (A_cons R_str (A_cons R_str (A_cons R_str (A_cons R_str (A_cons R_str (A_cons R_str (A_cons R_str A_nil))))))))))
  (SS_cons (S_set (i := 3) sc__law_clue.nd rfl (by first | exact Or.inl rfl | exact Or.inr rfl) (R_call (ok__law_pick M) (hr.mono (by omega)) rfl M.m__law_pick M.n__law_pick.kp M.b__law_pick (passes_call (takes_of rfl rfl rfl rfl) fun _ _ _ _ h => h) (A_cons (R_var (i := 0) rfl (by first | exact Or.inl rfl | exact Or.inr (Or.inl rfl) | exact Or.inr (Or.inr rfl))) (A_cons (R_bin o_add (R_var (i := 2) rfl (by first | exact Or.inl rfl | exact Or.inr (Or.inl rfl) | exact Or.inr (Or.inr rfl))) (R_ifx (pt_cmpM o_gt bool_cmp (R_var (i := 1) rfl (by first | exact Or.inl rfl | exact Or.inr (Or.inl rfl) | exact Or.inr (Or.inr rfl))) R_int (nomark _)) (R_lst (A_cons R_str (A_cons R_str (A_cons R_str A_nil)))) (R_lst A_nil))) A_nil))))
  (SS_cons (S_if (pt_cmpM o_in bool_in (R_var (i := 3) rfl (by first | exact Or.inl rfl | exact Or.inr (Or.inl rfl) | exact Or.inr (Or.inr rfl))) (R_tup (A_cons R_str (A_cons R_str (A_cons R_str A_nil)))) (by with_unfolding_all rfl)) (SS_one (S_ret (R_bin o_add (R_tup (A_cons (R_var (i := 3) rfl (by first | exact Or.inl rfl | exact Or.inr (Or.inl rfl) | exact Or.inr (Or.inr rfl))) A_nil)) (R_callTy o_tuple rfl M.z_tuple bt_tuple (R_comp (own := [("turn", 4)]) rfl sc__law_clue.nd (I_range1 rfl M.z_range (R_ifx (pt_cmpM (o_eq hr.units) bool_eq (R_var (i := 3) rfl (by first | exact Or.inl rfl | exact Or.inr (Or.inl rfl) | exact Or.inr (Or.inr rfl))) R_str (nomark _)) R_int R_int)) (blkOk_by (N := ["row", "depth", "some", "kind", "turn"]) (sc := defScope s__law_clue) (by decide +kernel)) (by decide) (fun _ _ _ _ _ => (G_var (i := 4) sc__law_clue.nd rfl (by first | exact Or.inl rfl | exact Or.inr rfl) (by first | exact Or.inl rfl | exact Or.inr rfl))) (fun _ _ _ _ _ => T_nil) (fun _ _ _ _ _ => (R_call ih (hr.mono (by omega)) rfl M.m__law_clue M.n__law_clue.kp M.b__law_clue passL (A_cons (R_var (i := 0) rfl (by first | exact Or.inl rfl | exact Or.inr (Or.inl rfl) | exact Or.inr (Or.inr rfl))) (A_cons (R_bin o_sub (R_var (i := 1) rfl (by first | exact Or.inl rfl | exact Or.inr (Or.inl rfl) | exact Or.inr (Or.inr rfl))) R_int) A_nil))))))))) SS_nil)
  (SS_cons (S_if (pt_cmpM (o_eq hr.units) bool_eq (R_var (i := 3) rfl (by first | exact Or.inl rfl | exact Or.inr (Or.inl rfl) | exact Or.inr (Or.inr rfl))) R_str (nomark _)) (SS_one (S_ret (R_tup (A_cons (R_var (i := 3) rfl (by first | exact Or.inl rfl | exact Or.inr (Or.inl rfl) | exact Or.inr (Or.inr rfl))) (A_cons (R_call (ok__law_text M) (hr.mono (by omega)) rfl M.m__law_text M.n__law_text.kp M.b__law_text (passes_call (takes_of rfl rfl rfl rfl) fun _ _ _ _ h => h) (A_cons (R_var (i := 0) rfl (by first | exact Or.inl rfl | exact Or.inr (Or.inl rfl) | exact Or.inr (Or.inr rfl))) (A_cons R_int (A_cons R_int (A_cons R_str A_nil))))) A_nil))))) SS_nil)
  (SS_cons (S_if (pt_cmpM o_in bool_in (R_var (i := 3) rfl (by first | exact Or.inl rfl | exact Or.inr (Or.inl rfl) | exact Or.inr (Or.inr rfl))) (R_tup (A_cons R_str (A_cons R_str (A_cons R_str A_nil)))) (by with_unfolding_all rfl)) (SS_one (S_ret (R_tup (A_cons (R_var (i := 3) rfl (by first | exact Or.inl rfl | exact Or.inr (Or.inl rfl) | exact Or.inr (Or.inr rfl))) (A_cons (R_call (ok__law_text M) (hr.mono (by omega)) rfl M.m__law_text M.n__law_text.kp M.b__law_text (passes_call (takes_of rfl rfl rfl rfl) fun _ _ _ _ h => h) (A_cons (R_var (i := 0) rfl (by first | exact Or.inl rfl | exact Or.inr (Or.inl rfl) | exact Or.inr (Or.inr rfl))) (A_cons R_int (A_cons (R_call (ok__law_pick M) (hr.mono (by omega)) rfl M.m__law_pick M.n__law_pick.kp M.b__law_pick (passes_call (takes_of rfl rfl rfl rfl) fun _ _ _ _ h => h) (A_cons (R_var (i := 0) rfl (by first | exact Or.inl rfl | exact Or.inr (Or.inl rfl) | exact Or.inr (Or.inr rfl))) (A_cons (R_lst (A_cons R_int (A_cons R_int (A_cons R_int A_nil)))) A_nil))) (A_cons R_str A_nil))))) A_nil))))) SS_nil)
  (SS_cons (S_if (pt_cmpM (o_eq hr.units) bool_eq (R_var (i := 3) rfl (by first | exact Or.inl rfl | exact Or.inr (Or.inl rfl) | exact Or.inr (Or.inr rfl))) R_str (nomark _)) (SS_one (S_ret (R_tup (A_cons (R_var (i := 3) rfl (by first | exact Or.inl rfl | exact Or.inr (Or.inl rfl) | exact Or.inr (Or.inr rfl))) (A_cons (R_call (ok__law_pick M) (hr.mono (by omega)) rfl M.m__law_pick M.n__law_pick.kp M.b__law_pick (passes_call (takes_of rfl rfl rfl rfl) fun _ _ _ _ h => h) (A_cons (R_var (i := 0) rfl (by first | exact Or.inl rfl | exact Or.inr (Or.inl rfl) | exact Or.inr (Or.inr rfl))) (A_cons (R_lst (A_cons R_str (A_cons R_str (A_cons R_str (A_cons R_str A_nil))))) A_nil))) (A_cons (R_call (ok__law_taken M) (hr.mono (by omega)) rfl M.m__law_taken M.n__law_taken.kp M.b__law_taken (passes_call (takes_of rfl rfl rfl rfl) fun _ _ _ _ h => h) (A_cons (R_var (i := 0) rfl (by first | exact Or.inl rfl | exact Or.inr (Or.inl rfl) | exact Or.inr (Or.inr rfl))) (A_cons (R_call (ok__law_pick M) (hr.mono (by omega)) rfl M.m__law_pick M.n__law_pick.kp M.b__law_pick (passes_call (takes_of rfl rfl rfl rfl) fun _ _ _ _ h => h) (A_cons (R_var (i := 0) rfl (by first | exact Or.inl rfl | exact Or.inr (Or.inl rfl) | exact Or.inr (Or.inr rfl))) (A_cons (R_lst (A_cons R_int (A_cons R_int A_nil))) A_nil))) A_nil))) A_nil)))))) SS_nil)
  (SS_cons (S_if (pt_cmpM (o_eq hr.units) bool_eq (R_var (i := 3) rfl (by first | exact Or.inl rfl | exact Or.inr (Or.inl rfl) | exact Or.inr (Or.inr rfl))) R_str (nomark _)) (SS_one (S_ret (R_tup (A_cons (R_var (i := 3) rfl (by first | exact Or.inl rfl | exact Or.inr (Or.inl rfl) | exact Or.inr (Or.inr rfl))) (A_cons (R_call (ok__law_text M) (hr.mono (by omega)) rfl M.m__law_text M.n__law_text.kp M.b__law_text (passes_call (takes_of rfl rfl rfl rfl) fun _ _ _ _ h => h) (A_cons (R_var (i := 0) rfl (by first | exact Or.inl rfl | exact Or.inr (Or.inl rfl) | exact Or.inr (Or.inr rfl))) (A_cons R_int (A_cons R_int (A_cons R_str A_nil))))) (A_cons (R_call (ok__law_text M) (hr.mono (by omega)) rfl M.m__law_text M.n__law_text.kp M.b__law_text (passes_call (takes_of rfl rfl rfl rfl) fun _ _ _ _ h => h) (A_cons (R_var (i := 0) rfl (by first | exact Or.inl rfl | exact Or.inr (Or.inl rfl) | exact Or.inr (Or.inr rfl))) (A_cons R_int (A_cons R_int (A_cons R_str A_nil))))) A_nil)))))) SS_nil)
  (SS_one (S_ret (R_ifx (pt_cmpM (o_eq hr.units) bool_eq (R_var (i := 3) rfl (by first | exact Or.inl rfl | exact Or.inr (Or.inl rfl) | exact Or.inr (Or.inr rfl))) R_str (nomark _)) (R_tup (A_cons (R_var (i := 3) rfl (by first | exact Or.inl rfl | exact Or.inr (Or.inl rfl) | exact Or.inr (Or.inr rfl))) (A_cons (R_call (ok__law_text M) (hr.mono (by omega)) rfl M.m__law_text M.n__law_text.kp M.b__law_text (passes_call (takes_of rfl rfl rfl rfl) fun _ _ _ _ h => h) (A_cons (R_var (i := 0) rfl (by first | exact Or.inl rfl | exact Or.inr (Or.inl rfl) | exact Or.inr (Or.inr rfl))) (A_cons R_int (A_cons R_int (A_cons R_str A_nil))))) A_nil))) (R_tup (A_cons (R_var (i := 3) rfl (by first | exact Or.inl rfl | exact Or.inr (Or.inl rfl) | exact Or.inr (Or.inr rfl))) A_nil))))))))))))
/-- _law_alike -/
theorem ok__law_alike (M : Mo P w K mg base gd) : ∀ n : Nat, FnOk P w K mg base (L2.CX P w) (8 + 3 * n) M.f__law_alike M.d__law_alike ["found", "due"] (spM K gd (m__law_alike n))
  | 0 => fn_no
  | n + 1 => by
    have ih := ok__law_alike M n
    exact def_ok (k := 8 + 3 * n + 2) M.n__law_alike sc__law_alike rfl rfl (by decide) fun A outer s H E hr =>
  (SS_cons (S_if (T_val (R_isi2 (t := .tuple) (t2 := .list) rfl rfl rfl rfl rfl M.z_isinstance (R_var (i := 1) rfl (by first | exact Or.inl rfl | exact Or.inr (Or.inl rfl) | exact Or.inr (Or.inr rfl))) rfl M.z_tuple bt_tuple rfl M.z_list bt_list (by decide) (by decide) (by decide) (by decide))) (SS_cons (S_if (PW.pt (R_tor (R_tnot (T_val (R_isi2 (t := .tuple) (t2 := .list) rfl rfl rfl rfl rfl M.z_isinstance (R_var (i := 0) rfl (by first | exact Or.inl rfl | exact Or.inr (Or.inl rfl) | exact Or.inr (Or.inr rfl))) rfl M.z_tuple bt_tuple rfl M.z_list bt_list (by decide) (by decide) (by decide) (by decide)))) (R_tor1 (pt_cmpM (o_ne hr.units) bool_ne (R_isi (t := .list) rfl rfl rfl M.z_isinstance (R_var (i := 0) rfl (by first | exact Or.inl rfl | exact Or.inr (Or.inl rfl) | exact Or.inr (Or.inr rfl))) rfl M.z_list bt_list (by decide) (by decide)) (R_isi (t := .list) rfl rfl rfl M.z_isinstance (R_var (i := 1) rfl (by first | exact Or.inl rfl | exact Or.inr (Or.inl rfl) | exact Or.inr (Or.inr rfl))) rfl M.z_list bt_list (by decide) (by decide)) (nomark _))))) (SS_one (S_ret R_bl)) SS_nil)
  (SS_cons (S_if (pt_cmpM (o_ne hr.units) bool_ne (R_callB o_len rfl M.z_len PySem.boot_len (R_var (i := 0) rfl (by first | exact Or.inl rfl | exact Or.inr (Or.inl rfl) | exact Or.inr (Or.inr rfl)))) (R_callB o_len rfl M.z_len PySem.boot_len (R_var (i := 1) rfl (by first | exact Or.inl rfl | exact Or.inr (Or.inl rfl) | exact Or.inr (Or.inr rfl)))) (nomark _)) (SS_one (S_ret R_bl)) SS_nil)
  (SS_one (S_ret (R_cmp (o_eq hr.units) (R_comp (own := [("k", 2)]) rfl sc__law_alike.nd (I_range1 rfl M.z_range (R_callB o_len rfl M.z_len PySem.boot_len (R_var (i := 1) rfl (by first | exact Or.inl rfl | exact Or.inr (Or.inl rfl) | exact Or.inr (Or.inr rfl))))) (blkOk_by (N := ["found", "due", "k", "key"]) (sc := defScope s__law_alike) (by decide +kernel)) (by decide) (fun _ _ _ _ _ => (G_var (i := 2) sc__law_alike.nd rfl (by first | exact Or.inl rfl | exact Or.inr rfl) (by first | exact Or.inl rfl | exact Or.inr rfl))) (fun _ _ _ _ _ => (pts_one (R_tnot (T_val (R_call ih (hr.mono (by omega)) rfl M.m__law_alike M.n__law_alike.kp M.b__law_alike passL (A_cons (R_idx (R_var (i := 0) rfl (by first | exact Or.inl rfl | exact Or.inr (Or.inl rfl) | exact Or.inr (Or.inr rfl))) (R_var (i := 2) rfl (by first | exact Or.inl rfl | exact Or.inr (Or.inl rfl) | exact Or.inr (Or.inr rfl))) (fun _ _ => rfl)) (A_cons (R_idx (R_var (i := 1) rfl (by first | exact Or.inl rfl | exact Or.inr (Or.inl rfl) | exact Or.inr (Or.inr rfl))) (R_var (i := 2) rfl (by first | exact Or.inl rfl | exact Or.inr (Or.inl rfl) | exact Or.inr (Or.inr rfl))) (fun _ _ => rfl)) A_nil))))))) (fun _ _ _ _ _ => (R_var (i := 2) rfl (by first | exact Or.inl rfl | exact Or.inr (Or.inl rfl) | exact Or.inr (Or.inr rfl))))) (R_lst A_nil) (nomark _)))))) SS_nil)
  (SS_cons (S_if (T_val (R_isi (t := .dict) rfl rfl rfl M.z_isinstance (R_var (i := 1) rfl (by first | exact Or.inl rfl | exact Or.inr (Or.inl rfl) | exact Or.inr (Or.inr rfl))) rfl M.z_dict bt_dict (by decide) (by decide))) SS_no SS_nil)
  (SS_cons (S_if (PW.pt (R_tor (T_isN (R_var (i := 1) rfl (by first | exact Or.inl rfl | exact Or.inr (Or.inl rfl) | exact Or.inr (Or.inr rfl)))) (R_tor1 (T_val (R_isi (t := .str) rfl rfl rfl M.z_isinstance (R_var (i := 1) rfl (by first | exact Or.inl rfl | exact Or.inr (Or.inl rfl) | exact Or.inr (Or.inr rfl))) rfl M.z_str bt_str (by decide) (by decide)))))) (SS_one (S_ret (R_and (R_cmp (o_eq hr.units) (R_var (i := 0) rfl (by first | exact Or.inl rfl | exact Or.inr (Or.inl rfl) | exact Or.inr (Or.inr rfl))) (R_var (i := 1) rfl (by first | exact Or.inl rfl | exact Or.inr (Or.inl rfl) | exact Or.inr (Or.inr rfl))) (nomark _)) (R_one (R_cmp (o_eq hr.units) (R_isi (t := .str) rfl rfl rfl M.z_isinstance (R_var (i := 0) rfl (by first | exact Or.inl rfl | exact Or.inr (Or.inl rfl) | exact Or.inr (Or.inr rfl))) rfl M.z_str bt_str (by decide) (by decide)) (R_isi (t := .str) rfl rfl rfl M.z_isinstance (R_var (i := 1) rfl (by first | exact Or.inl rfl | exact Or.inr (Or.inl rfl) | exact Or.inr (Or.inr rfl))) rfl M.z_str bt_str (by decide) (by decide)) (nomark _)))))) SS_nil)
  (SS_one (S_ret (R_and (R_isi (t := .int) rfl rfl rfl M.z_isinstance (R_var (i := 0) rfl (by first | exact Or.inl rfl | exact Or.inr (Or.inl rfl) | exact Or.inr (Or.inr rfl))) rfl M.z_int bt_int (by decide) (by decide)) (R_and (R_cmp (o_eq hr.units) (R_isi (t := .bool) rfl rfl rfl M.z_isinstance (R_var (i := 0) rfl (by first | exact Or.inl rfl | exact Or.inr (Or.inl rfl) | exact Or.inr (Or.inr rfl))) rfl M.z_bool bt_bool (by decide) (by decide)) (R_isi (t := .bool) rfl rfl rfl M.z_isinstance (R_var (i := 1) rfl (by first | exact Or.inl rfl | exact Or.inr (Or.inl rfl) | exact Or.inr (Or.inr rfl))) rfl M.z_bool bt_bool (by decide) (by decide)) (nomark _)) (R_one (R_cmp (o_eq hr.units) (R_var (i := 0) rfl (by first | exact Or.inl rfl | exact Or.inr (Or.inl rfl) | exact Or.inr (Or.inr rfl))) (R_var (i := 1) rfl (by first | exact Or.inl rfl | exact Or.inr (Or.inl rfl) | exact Or.inr (Or.inr rfl))) (nomark _))))))))))
/-- _law_clue_text -/
theorem ok__law_clue_text (M : Mo P w K mg base gd) : ∀ n : Nat, FnOk P w K mg base (L2.CX P w) (8 + 3 * n) M.f__law_clue_text M.d__law_clue_text ["clue"] (spM K gd (m__law_clue_text n))
  | 0 => fn_no
  | n + 1 => by
    have ih := ok__law_clue_text M n
    exact def_ok (k := 8 + 3 * n + 2) M.n__law_clue_text sc__law_clue_text rfl rfl (by decide) fun A outer s H E hr =>
  (SS_one (S_ret (R_join R_str (R_bin o_add (R_lst (A_cons (R_idx (R_var (i := 0) rfl (by first | exact Or.inl rfl | exact Or.inr (Or.inl rfl) | exact Or.inr (Or.inr rfl))) R_int (fun _ _ => rfl)) A_nil)) (R_comp (own := [("own", 1)]) rfl sc__law_clue_text.nd (I_src (R_slice (R_var (i := 0) rfl (by first | exact Or.inl rfl | exact Or.inr (Or.inl rfl) | exact Or.inr (Or.inr rfl))) (.inr ⟨_, _, rfl, rfl, R_int⟩) (.inl ⟨rfl, rfl⟩))) (blkOk_by (N := ["clue", "own"]) (sc := defScope s__law_clue_text) (by decide +kernel)) (by decide) (fun _ _ _ _ _ => (G_var (i := 1) sc__law_clue_text.nd rfl (by first | exact Or.inl rfl | exact Or.inr rfl) (by first | exact Or.inl rfl | exact Or.inr rfl))) (fun _ _ _ _ _ => T_nil) (fun _ _ _ _ _ => (R_ifx (T_val (R_isi (t := .tuple) rfl rfl rfl M.z_isinstance (R_var (i := 1) rfl (by first | exact Or.inl rfl | exact Or.inr (Or.inl rfl) | exact Or.inr (Or.inr rfl))) rfl M.z_tuple bt_tuple (by decide) (by decide))) (R_call ih (hr.mono (by omega)) rfl M.m__law_clue_text M.n__law_clue_text.kp M.b__law_clue_text passL (A_cons (R_var (i := 1) rfl (by first | exact Or.inl rfl | exact Or.inr (Or.inl rfl) | exact Or.inr (Or.inr rfl))) A_nil)) (R_callTy o_str rfl M.z_str bt_str (R_var (i := 1) rfl (by first | exact Or.inl rfl | exact Or.inr (Or.inl rfl) | exact Or.inr (Or.inr rfl)))))))))))
/-- _law_no_clue -/
theorem ok__law_no_clue (M : Mo P w K mg base gd) : FnOk P w K mg base (L2.CX P w) 18 M.f__law_no_clue M.d__law_no_clue ["row", "text"] (spM K gd m__law_no_clue) :=
  def_ok (k := 17) M.n__law_no_clue sc__law_no_clue rfl rfl (by decide) fun A outer s H E hr =>
  (SS_cons (S_set (i := 2) sc__law_no_clue.nd rfl (by first | exact Or.inl rfl | exact Or.inr rfl) (R_lst (A_cons R_str (A_cons R_str (A_cons R_str (A_cons R_str (A_cons R_str (A_cons R_str (A_cons R_str (A_cons R_str (A_cons R_str (A_cons R_str (A_cons R_str (A_cons R_str (A_cons R_str (A_cons R_str (A_cons R_str (A_cons R_str A_nil))))))))))))))))))
  (SS_cons (S_set (i := 2) sc__law_no_clue.nd rfl (by first | exact Or.inl rfl | exact Or.inr rfl) (R_bin o_add (R_var (i := 2) rfl (by first | exact Or.inl rfl | exact Or.inr (Or.inl rfl) | exact Or.inr (Or.inr rfl))) (R_lst (A_cons R_str (A_cons R_str (A_cons R_str (A_cons R_str (A_cons R_str (A_cons R_str (A_cons R_str (A_cons R_str (A_cons R_str A_nil))))))))))))
  (SS_one (S_ret (R_call (ok__law_pick M) (hr.mono (by omega)) rfl M.m__law_pick M.n__law_pick.kp M.b__law_pick (passes_call (takes_of rfl rfl rfl rfl) fun _ _ _ _ h => h) (A_cons (R_var (i := 0) rfl (by first | exact Or.inl rfl | exact Or.inr (Or.inl rfl) | exact Or.inr (Or.inr rfl))) (A_cons (R_bin o_add (R_var (i := 2) rfl (by first | exact Or.inl rfl | exact Or.inr (Or.inl rfl) | exact Or.inr (Or.inr rfl))) (R_lst (A_cons (R_bin o_add (R_var (i := 1) rfl (by first | exact Or.inl rfl | exact Or.inr (Or.inl rfl) | exact Or.inr (Or.inr rfl))) R_str) (A_cons (R_bin o_add (R_var (i := 1) rfl (by first | exact Or.inl rfl | exact Or.inr (Or.inl rfl) | exact Or.inr (Or.inr rfl))) R_str) (A_cons (R_bin o_add R_str (R_var (i := 1) rfl (by first | exact Or.inl rfl | exact Or.inr (Or.inl rfl) | exact Or.inr (Or.inr rfl)))) (A_cons R_str A_nil)))))) A_nil)))))))
/-- law -/
theorem ok_law (M : Mo P w K mg base gd) : FnOk P w K mg base (L2.CX P w) 62 M.f_law M.d_law ["script"] (spM K gd m_law) :=
  def_ok (k := 61) M.n_law sc_law rfl rfl (by decide) fun A outer s H E hr =>
  (SS_cons (S_set (i := 1) sc_law.nd rfl (by first | exact Or.inl rfl | exact Or.inr rfl) (R_newref (A_cons (R_var (i := 0) rfl (by first | exact Or.inl rfl | exact Or.inr (Or.inl rfl) | exact Or.inr (Or.inr rfl))) (A_cons R_int (A_cons R_int (A_cons R_int A_nil))))))
  (SS_cons (S_for (passes_of rfl) rfl GOk_var (I_range1 rfl M.z_range R_int) (G_var (i := 2) sc_law.nd rfl (by first | exact Or.inl rfl | exact Or.inr rfl) (by first | exact Or.inl rfl | exact Or.inr rfl)) (SS_cons (S_set (i := 5) sc_law.nd rfl (by first | exact Or.inl rfl | exact Or.inr rfl) (R_call (ok__law_clue M 8) (hr.mono (by omega)) rfl M.m__law_clue M.n__law_clue.kp M.b__law_clue (passes_call (takes_of rfl rfl rfl rfl) fun _ _ _ _ h => h) (A_cons (R_var (i := 1) rfl (by first | exact Or.inl rfl | exact Or.inr (Or.inl rfl) | exact Or.inr (Or.inr rfl))) (A_cons R_int A_nil))))
  (SS_cons (S_set (i := 6) sc_law.nd rfl (by first | exact Or.inl rfl | exact Or.inr rfl) (R_call (ok_clue_text M) (hr.mono (by omega)) rfl M.m_clue_text M.n_clue_text.kp M.b_clue_text (passes_call (takes_of rfl rfl rfl rfl) fun _ _ _ _ h => h) (A_cons (R_var (i := 5) rfl (by first | exact Or.inl rfl | exact Or.inr (Or.inl rfl) | exact Or.inr (Or.inr rfl))) A_nil)))
  (SS_one (S_if (PW.pt (R_tor (R_tnot (T_val (R_call (ok__law_alike M 8) (hr.mono (by omega)) rfl M.m__law_alike M.n__law_alike.kp M.b__law_alike (passes_call (takes_of rfl rfl rfl rfl) fun _ _ _ _ h => h) (A_cons (R_lst (A_cons (R_var (i := 6) rfl (by first | exact Or.inl rfl | exact Or.inr (Or.inl rfl) | exact Or.inr (Or.inr rfl))) (A_cons (R_call (ok_read_clue M) (hr.mono (by omega)) rfl M.m_read_clue M.n_read_clue.kp M.b_read_clue (passes_call (takes_of rfl rfl rfl rfl) fun _ _ _ _ h => h) (A_cons (R_var (i := 6) rfl (by first | exact Or.inl rfl | exact Or.inr (Or.inl rfl) | exact Or.inr (Or.inr rfl))) A_nil)) A_nil))) (A_cons (R_lst (A_cons (R_call (ok__law_clue_text M 8) (hr.mono (by omega)) rfl M.m__law_clue_text M.n__law_clue_text.kp M.b__law_clue_text (passes_call (takes_of rfl rfl rfl rfl) fun _ _ _ _ h => h) (A_cons (R_var (i := 5) rfl (by first | exact Or.inl rfl | exact Or.inr (Or.inl rfl) | exact Or.inr (Or.inr rfl))) A_nil)) (A_cons (R_var (i := 5) rfl (by first | exact Or.inl rfl | exact Or.inr (Or.inl rfl) | exact Or.inr (Or.inr rfl))) A_nil))) A_nil))))) (R_tor1 (T_notN (R_call (ok_read_clue M) (hr.mono (by omega)) rfl M.m_read_clue M.n_read_clue.kp M.b_read_clue (passes_call (takes_of rfl rfl rfl rfl) fun _ _ _ _ h => h) (A_cons (R_call (ok__law_no_clue M) (hr.mono (by omega)) rfl M.m__law_no_clue M.n__law_no_clue.kp M.b__law_no_clue (passes_call (takes_of rfl rfl rfl rfl) fun _ _ _ _ h => h) (A_cons (R_var (i := 1) rfl (by first | exact Or.inl rfl | exact Or.inr (Or.inl rfl) | exact Or.inr (Or.inr rfl))) (A_cons (R_var (i := 6) rfl (by first | exact Or.inl rfl | exact Or.inr (Or.inl rfl) | exact Or.inr (Or.inr rfl))) A_nil))) A_nil)))))) (SS_one (S_ret R_bl)) SS_nil)))))
  (SS_cons (S_asg (GOk_tup (GsOk_cons GOk_var (GsOk_cons GOk_var GsOk_nil))) (R_tup (A_cons (R_call (ok__law_pick M) (hr.mono (by omega)) rfl M.m__law_pick M.n__law_pick.kp M.b__law_pick (passes_call (takes_of rfl rfl rfl rfl) fun _ _ _ _ h => h) (A_cons (R_var (i := 1) rfl (by first | exact Or.inl rfl | exact Or.inr (Or.inl rfl) | exact Or.inr (Or.inr rfl))) (A_cons (R_lst (A_cons R_non (A_cons (R_tup A_nil) (A_cons R_str (A_cons (R_tup (A_cons R_str A_nil)) (A_cons (R_tup (A_cons R_str (A_cons R_str A_nil))) A_nil)))))) A_nil))) (A_cons (R_call (ok__law_pick M) (hr.mono (by omega)) rfl M.m__law_pick M.n__law_pick.kp M.b__law_pick (passes_call (takes_of rfl rfl rfl rfl) fun _ _ _ _ h => h) (A_cons (R_var (i := 1) rfl (by first | exact Or.inl rfl | exact Or.inr (Or.inl rfl) | exact Or.inr (Or.inr rfl))) (A_cons (R_lst (A_cons R_non (A_cons R_int (A_cons (R_lst (A_cons R_str A_nil)) (A_cons (R_tup A_nil) A_nil))))) A_nil))) A_nil))) (G_tup rfl (Gs_cons (G_var (i := 3) sc_law.nd rfl (by first | exact Or.inl rfl | exact Or.inr rfl) (by first | exact Or.inl rfl | exact Or.inr rfl)) (Gs_cons (G_var (i := 4) sc_law.nd rfl (by first | exact Or.inl rfl | exact Or.inr rfl) (by first | exact Or.inl rfl | exact Or.inr rfl)) Gs_nil)) rfl rfl))
  (SS_one (S_ret (R_call (ok__law_alike M 8) (hr.mono (by omega)) rfl M.m__law_alike M.n__law_alike.kp M.b__law_alike (passes_call (takes_of rfl rfl rfl rfl) fun _ _ _ _ h => h) (A_cons (R_lst (A_cons (R_heard (k := 59) M.n__law_heard rfl M.m__law_heard M.b__law_heard sc__law_heard (heard_law M rfl rfl) M.cl_BadArgument M.x_law rfl M.l_law M.u_law hr (LamX.lamS_by (sc := defScope s_law) (by decide +kernel)) rfl (fun _ _ _ _ _ => rfl) (fun _ _ _ _ _ _ _ hrL => (R_call (ok_clue_text M) (hrL.mono (by omega)) rfl M.m_clue_text M.n_clue_text.kp M.b_clue_text (passes_call (takes_of rfl rfl rfl rfl) fun _ _ _ _ h => h) (A_cons (R_var (i := 3) rfl (by first | exact Or.inl rfl | exact Or.inr (Or.inl rfl) | exact Or.inr (Or.inr rfl))) A_nil)))) (A_cons (R_heard (k := 59) M.n__law_heard rfl M.m__law_heard M.b__law_heard sc__law_heard (heard_law M rfl rfl) M.cl_BadArgument M.x_law rfl M.l_law M.u_law hr (LamX.lamS_by (sc := defScope s_law) (by decide +kernel)) rfl (fun _ _ _ _ _ => rfl) (fun _ _ _ _ _ _ _ hrL => (R_call (ok_read_clue M) (hrL.mono (by omega)) rfl M.m_read_clue M.n_read_clue.kp M.b_read_clue (passes_call (takes_of rfl rfl rfl rfl) fun _ _ _ _ h => h) (A_cons (R_var (i := 4) rfl (by first | exact Or.inl rfl | exact Or.inr (Or.inl rfl) | exact Or.inr (Or.inr rfl))) A_nil)))) A_nil))) (A_cons (R_lst (A_cons (R_tup (A_cons R_str (A_cons R_str (A_cons R_bl A_nil)))) (A_cons (R_tup (A_cons R_str (A_cons R_str (A_cons R_bl A_nil)))) A_nil))) A_nil))))))))
end
end Cf
set_option Elab.async false
set_option linter.all false
set_option maxRecDepth 100000
set_option maxHeartbeats 2000000
/-! CfZ: the head: tables of code objects, the law's start. -/
namespace Cf
open PySem PySem.Spec PyProof.Rows L2

/-- the defs of the top, each with its table empty -/
def TabsIn (mg : Str → Option Value) (h : Heap) (names : List Str) : Prop :=
  ∀ nm ∈ names, ∃ (f : Addr) (o : Obj) (fd : FuncData) (c P : Addr), mg nm = some (.ref f) ∧ h.get? f = some o ∧ o.data = .func fd ∧ fd.code = .ref c ∧ h.TableAt c P #[]
theorem tab_emp {K : PySem.W.Frag} {h : Heap} {mg : Str → Option Value} {names : List Str} {nm : Str} {f c P : Addr} {oc : Value} {od : Option Addr} {osl : Array (Option Value)} {fd : FuncData}
    (X : K.In h) (T : TabsIn mg h names) (hn : nm ∈ names) (m : mg nm = some (.ref f)) (l : K.lookup f = some ⟨oc, od, .func fd, osl⟩) (hc : fd.code = .ref c) (e : PySem.W.codeHdIn K c P = true) : h.get? P = some { cls := .none, data := .fields #[] } := by
  obtain ⟨f', o, fd', c', P', g1, g2, g3, g4, g5⟩ := T nm hn
  cases m.symm.trans g1
  cases (X _ _ l).symm.trans g2
  cases g3
  cases hc.symm.trans g4
  obtain ⟨⟨o2, vs2, t1, _, t3, t4⟩, t5⟩ := g5
  obtain ⟨o1, us, _, _, _, _, _, _, _, e1, _, e2, e3, _⟩ := PySem.W.codeHd_of_K X e
  cases e1.symm.trans t1
  cases e2.symm.trans t3
  cases e3.symm.trans t4
  exact t5
theorem walk_all {l : PySem.W.OpenLaw} {n k : Nat} {q : Program} {loose : List Str} {XP : (Str → Option Value) → Heap → Prop} {YP : World → Heap → Prop} {d : DefRec} {K : Params → PySem.W.Frag} {CX : World → CXT} {x : Str} (names : List Str)
    (h1 : l.most = some n) (h2 : n ≤ sizeLine) (h3 : d.params.defaults = []) (h4 : Room k callerA) (hrec : (names.all fun nm => (recsOf q).any fun e => e.name == nm) = true)
    (hY : ∀ (w : World) (h : Heap), YP w h → (K w.params).In h)
    (F : ∀ (w : World) (mg : Str → Option Value) (fa : Addr) (h : Heap), (K w.params).In h → h.Ns mainGlobals mg → TabsIn mg h names → mg d.name = some (.ref fa) → LamX.LawAtS l w (K w.params) (CX w) k n x mg fa h)
    (hCX : ∀ (w : World) (H : Hp) (s : Shared) (e : Value) (s' : Shared), CX w [] H s (fun _ _ _ => False) e s' → False) : PySem.W.WalkO q loose XP YP l.row.toRowW d [] (fun f vs => PySem.call f vs) := by
  refine Att.attach_callB h1 h3 fun w _ s₁ mg _ fa _ _ _ _ a vs ns G Y _ _ _ hm ho hi hl hb hg => ?_
  have X := hY w _ Y
  have T : TabsIn mg s₁.heap names := fun nm hn => by
    obtain ⟨e, he, en⟩ := List.any_eq_true.mp (List.all_eq_true.mp hrec nm hn)
    obtain ⟨f, o, fd, c, P, g1, g2, g3, g4, _, g6⟩ := G.T.tab e he
    rw [beq_iff_eq.mp en] at g1
    exact ⟨f, o, fd, c, P, g1, g2, g3, g4, g6⟩
  obtain ⟨fd, cs, sp, t1, t2, t3, t4, t5, t6⟩ := F w mg fa _ X G.T.g T hm
  refine LamX.law_callTs X G.T.g G.T.b G.T.builtins G.T.nolimit hg t1 t2 t3 G.T.bmain ho hi ?_ h4 t6 t4 (fun H z1 z2 => t5 H a ns hl hb z1 z2) fun H e s' => hCX w H s₁ e s'
  exact Nat.le_trans hl h2

theorem reps_ints {w : Wd} : ∀ ns : List Int, Reps w (ns.map D.int) (ns.map V.int)
  | [] => .nil
  | n :: r => .cons (by rw [Rep]) (reps_ints r)
/-- the law's start, from its mirror -/
theorem law_start {K : PySem.W.Frag} {gd : Gd} {H : Hp} {a : Addr} {ns : List Int} {m : List D → M D} {h : List O} (hT : ∀ p ∈ gd.T, H p.1 = some (.tbl #[])) (hS : SqL K H a (ns.map V.int)) (e : m [.lst (ns.map D.int)] [] = .ok (.bl true) h) :
    spM K gd m [.ref a] H (fun v _ => v = .bl true) fun _ _ _ => False := by
  refine ⟨⟨K, gd, [], H, fun _ => False⟩, [], [.lst (ns.map D.int)], rfl, rfl, rfl, ⟨rfl, List.nodup_nil, fun i o b z => ?_, fun b z => z.elim, fun p hp => LamX.TabS.nil (hT p hp)⟩, ?_, ?_⟩
  · simp at z
  · refine .cons ?_ .nil
    rw [Rep]
    refine ⟨a, _, rfl, ?_, reps_ints ns⟩
    rcases hS with z | z
    · exact .inl ⟨z, fun u => u, fun u => (nomatch u)⟩
    · exact .inr (.inr z)
  · rw [e]
    intro w' _ _ v rv
    rw [Rep] at rv
    exact rv
/-- names of tables, each table once -/
theorem tab_one {T : List (Addr × Str)} (nd : (T.map (·.1)).Nodup) {q : Addr} {x : Str} (hm : (q, x) ∈ T) : ∀ p ∈ T, p.1 = q → p.2 = x := by
  intro p hp e
  induction T with
  | nil => cases hp
  | cons t r ih =>
    obtain ⟨n1, n2⟩ := List.nodup_cons.mp nd
    rcases List.mem_cons.mp hp with z | z <;> rcases List.mem_cons.mp hm with y | y
    · rw [z, ← y]
    · exact absurd (List.mem_map.mpr ⟨_, y, (by rw [← e, z])⟩) n1
    · exact absurd (List.mem_map.mpr ⟨_, z, (by rw [e, ← y])⟩) n1
    · exact ih n2 y z
end Cf
set_option Elab.async false
set_option linter.all false
set_option maxRecDepth 100000
set_option maxHeartbeats 4000000
/-! CpA: steps through mirrors -/
namespace Cf
theorem bindM {α β : Type} (m : M α) (f : α → M β) (h : List O) : (m >>= f) h = (m h).next f := rfl
theorem pureM {α : Type} (a : α) (h : List O) : (pure a : M α) h = .ok a h := rfl
theorem retM {α : Type} (a : α) (h : List O) : (ret a : M α) h = .ok a h := rfl
theorem nx_ok {α β : Type} (a : α) (h : List O) (f : α → M β) : (R.ok a h).next f = f a h := rfl
theorem stmt_ok {α : Type} (a : α) (h : List O) (f : α → List O → RS) : (R.ok a h).stmt f = f a h := rfl
theorem comp_draw {P : D → Prop} {g : G} {e : E} {σ : S} (J : List O → Prop) : ∀ (ds : List D) (h : List O), J h → (∀ d ∈ ds, ∃ σ1, g d σ = some σ1 ∧ ∀ h, J h → ∃ y h', e σ1 h = .ok y h' ∧ P y ∧ J h') →
    ∃ ys h', compGo g tYes e σ ds h = .ok ys h' ∧ ys.length = ds.length ∧ (∀ y ∈ ys, P y) ∧ J h'
  | [], h, j, _ => ⟨[], h, rfl, rfl, by simp, j⟩
  | d :: ds, h, j, q => by
    obtain ⟨σ1, e1, e2⟩ := q d (List.mem_cons_self)
    obtain ⟨y, h1, e3, p, j1⟩ := e2 h j
    obtain ⟨ys, h2, e4, l, ps, j2⟩ := comp_draw J ds h1 j1 fun x hx => q x (List.mem_cons_of_mem _ hx)
    refine ⟨y :: ys, h2, ?_, by rw [List.length_cons, List.length_cons, l], fun z hz => ?_, j2⟩
    · simp [compGo, e1, bindM, tYes, retM, nx_ok, e3, e4]
    · rcases List.mem_cons.mp hz with rfl | hz
      · exact p
      · exact ps z hz
theorem strs_join : ∀ {ys : List D} {sg : List Nat}, (∀ y ∈ ys, ∃ c ∈ sg, y = .str [c]) → ∃ ts : List (List Nat), strsOf ys = some ts ∧ (ts.map (·.length)).sum = ys.length ∧ (joinL [] ts).length = ys.length ∧ ∀ c ∈ joinL [] ts, c ∈ sg
  | [], _, _ => ⟨[], rfl, rfl, rfl, by simp [joinL]⟩
  | y :: ys, sg, q => by
    obtain ⟨c, hc, rfl⟩ := q y List.mem_cons_self
    obtain ⟨ts, e1, e2, e3, e4⟩ := strs_join (ys := ys) (sg := sg) fun z hz => q z (List.mem_cons_of_mem _ hz)
    refine ⟨[c] :: ts, by simp [strsOf, e1], by simp [e2]; omega, ?_, ?_⟩
    · cases ts with
      | nil => simp [joinL] at e3 ⊢; exact List.length_eq_zero_iff.mp e3.symm
      | cons t r => simp [joinL] at e3 ⊢; omega
    · cases ts with
      | nil => simp [joinL]; exact hc
      | cons t r =>
        intro x hx
        simp only [joinL, List.append_nil, List.singleton_append, List.mem_cons] at hx
        rcases hx with rfl | hx
        · exact hc
        · exact e4 x hx
theorem rangeD_mem {lo hi : Int} {d : D} (h : d ∈ rangeD lo hi) : ∃ k : Int, d = .int k ∧ lo ≤ k ∧ k < hi := by
  unfold rangeD at h
  obtain ⟨k, hk, rfl⟩ := List.mem_map.mp h
  have := List.mem_range.mp hk
  exact ⟨_, rfl, by omega, by omega⟩
theorem rangeD_len {lo hi : Int} : (rangeD lo hi).length = (hi - lo).toNat := by
  unfold rangeD
  rw [List.length_map, List.length_range]
theorem c_like : cps "like" = [108, 105, 107, 101] := by decide
theorem c_begins : cps "begins" = [98, 101, 103, 105, 110, 115] := by decide
theorem c_ends : cps "ends" = [101, 110, 100, 115] := by decide
theorem c_holds : cps "holds" = [104, 111, 108, 100, 115] := by decide
theorem c_count : cps "count" = [99, 111, 117, 110, 116] := by decide
theorem c_from : cps "from" = [102, 114, 111, 109] := by decide
theorem c_back : cps "back" = [98, 97, 99, 107] := by decide
theorem c_turned : cps "turned" = [116, 117, 114, 110, 101, 100] := by decide
theorem c_not : cps "not" = [110, 111, 116] := by decide
theorem c_both : cps "both" = [98, 111, 116, 104] := by decide
theorem c_either : cps "either" = [101, 105, 116, 104, 101, 114] := by decide
theorem c_any : cps "?" = [63] := by decide
theorem c_nil : cps "" = [] := by decide
abbrev az : List Nat := cps "abcdefghijklmnopqrstuvwxyz"
theorem c_az : cps "abcdefghijklmnopqrstuvwxyz" = [97, 98, 99, 100, 101, 102, 103, 104, 105, 106, 107, 108, 109, 110, 111, 112, 113, 114, 115, 116, 117, 118, 119, 120, 121, 122] := by decide
def Tx (s : List Nat) (a b : Nat) (sg : List Nat) : Prop := a ≤ s.length ∧ s.length ≤ b ∧ ∀ c ∈ s, c ∈ sg
theorem subIn_one (c : Nat) (sg : List Nat) : subIn [c] sg = decide (c ∈ sg) := by
  unfold subIn
  rw [Bool.eq_iff_iff, List.any_eq_true, decide_eq_true_eq]
  constructor
  · rintro ⟨i, _, e⟩
    have e : (sg.drop i).take 1 = [c] := by simpa using e
    have : c ∈ (sg.drop i).take 1 := by rw [e]; simp
    exact List.mem_of_mem_drop (List.mem_of_mem_take this)
  · intro hc
    obtain ⟨i, hi, e⟩ := List.getElem_of_mem hc
    refine ⟨i, List.mem_range.mpr (by omega), ?_⟩
    simp [List.take_one, hi, e]
theorem allGo_all {g : G} {t : T} {σ : S} {h : List O} : ∀ (ds : List D), (∀ d ∈ ds, ∃ σ1, g d σ = some σ1 ∧ t σ1 h = .ok true h) → allGo g t σ ds h = .ok true h
  | [], _ => rfl
  | d :: ds, q => by
    obtain ⟨σ1, e1, e2⟩ := q d List.mem_cons_self
    have ih := allGo_all ds fun x hx => q x (List.mem_cons_of_mem _ hx)
    simp [allGo, e1, bindM, e2, nx_ok, ih]
theorem deq_str (a b : List Nat) : deq (.str a) (.str b) = (a == b) := by rw [deq]
theorem deq_int (a b : Int) : deq (.int a) (.int b) = (a == b) := by rw [deq]
theorem deq_bl (a b : Bool) : deq (.bl a) (.bl b) = (a == b) := by rw [deq]
theorem pEq_str (a b : List Nat) : pEq (.str a) (.str b) = ret (.bl (a == b)) := by simp [pEq, eqable, plain, deep, deq_str]
theorem pEq_int (a b : Int) : pEq (.int a) (.int b) = ret (.bl (a == b)) := by simp [pEq, eqable, plain, deep, deq_int]
theorem pNe_str (a b : List Nat) : pNe (.str a) (.str b) = ret (.bl (!(a == b))) := by simp [pNe, eqable, plain, deep, deq_str]
theorem pNe_int (a b : Int) : pNe (.int a) (.int b) = ret (.bl (!(a == b))) := by simp [pNe, eqable, plain, deep, deq_int]
theorem allGo_f {g : G} {t : T} {σ : S} {h : List O} {f : D → Bool} : ∀ (ds : List D), (∀ d ∈ ds, ∃ σ1, g d σ = some σ1 ∧ t σ1 h = .ok (f d) h) → allGo g t σ ds h = .ok (ds.all f) h
  | [], _ => rfl
  | d :: ds, q => by
    obtain ⟨σ1, e1, e2⟩ := q d List.mem_cons_self
    have ih := allGo_f (f := f) ds fun x hx => q x (List.mem_cons_of_mem _ hx)
    simp only [allGo, e1, bindM, e2, nx_ok, List.all_cons]
    cases f d with
    | true => simp [ih]
    | false => simp [retM]
theorem compGo_f {g : G} {t : T} {e : E} {σ : S} {h : List O} {f : D → Bool} {u : D → D} : ∀ (ds : List D), (∀ d ∈ ds, ∃ σ1, g d σ = some σ1 ∧ t σ1 h = .ok (f d) h ∧ e σ1 h = .ok (u d) h) → compGo g t e σ ds h = .ok ((ds.filter f).map u) h
  | [], _ => rfl
  | d :: ds, q => by
    obtain ⟨σ1, e1, e2, e3⟩ := q d List.mem_cons_self
    have ih := compGo_f (f := f) (u := u) ds fun x hx => q x (List.mem_cons_of_mem _ hx)
    simp only [compGo, e1, bindM, e2, nx_ok]
    cases hf : f d with
    | true => simp [ih, e3, nx_ok, retM, bindM, hf]
    | false => simp [ih, hf]
theorem comp_f {it : I} {g : G} {t : T} {e : E} {vs : List Nat} {σ : S} {h : List O} {f : D → Bool} {u : D → D} {ds : List D} (hi : it σ h = .ok ds h) (hl : ds.length ≤ 16000000) (q : ∀ d ∈ ds, ∃ σ1, g d (wipe σ vs) = some σ1 ∧ t σ1 h = .ok (f d) h ∧ e σ1 h = .ok (u d) h) :
    eComp it g t e vs σ h = .ok (.lst ((ds.filter f).map u)) h := by
  have l : ((ds.filter f).map u).length ≤ 16000000 := by
    rw [List.length_map]
    exact Nat.le_trans (List.length_filter_le _ _) hl
  simp only [List.length_map] at l
  simp [eComp, comp, bindM, hi, nx_ok, noer, compGo_f ds q, retM, l]
def intsD (ys : List D) : Prop := ∀ y ∈ ys, ∃ k : Int, y = .int k
theorem ints_plain : ∀ {ys : List D}, intsD ys → plains ys = true ∧ deeps ys = 0
  | [], _ => ⟨rfl, rfl⟩
  | y :: ys, q => by
    obtain ⟨k, rfl⟩ := q y List.mem_cons_self
    have ih := ints_plain (ys := ys) fun z hz => q z (List.mem_cons_of_mem _ hz)
    exact ⟨by rw [plains, ih.1]; rfl, by rw [deeps, ih.2]; rfl⟩
theorem deq_nil (ys : List D) : deq (.lst ys) (.lst []) = ys.isEmpty := by
  cases ys with
  | nil => rw [deq, deqs]; rfl
  | cons y r => rw [deq, deqs] <;> simp
theorem eqable_ints {ys : List D} (q : intsD ys) : eqable (.lst ys) = true := by
  have z := ints_plain q
  simp [eqable, plain, deep, z.1, z.2]
theorem pEq_nil {ys : List D} (q : intsD ys) : pEq (.lst ys) (.lst []) = ret (.bl ys.isEmpty) := by
  have e2 : eqable (.lst []) = true := by decide
  simp [pEq, eqable_ints q, e2, deq_nil]
theorem pNe_nil {ys : List D} (q : intsD ys) : pNe (.lst ys) (.lst []) = ret (.bl (!ys.isEmpty)) := by
  have e2 : eqable (.lst []) = true := by decide
  simp [pNe, eqable_ints q, e2, deq_nil]
theorem ints_flat {ys : List D} (q : intsD ys) : ys.all flat = true := List.all_eq_true.mpr fun y hy => by
  obtain ⟨k, rfl⟩ := q y hy
  rfl
theorem ints_range {lo hi : Int} {f : D → Bool} : intsD ((rangeD lo hi).filter f) := fun y hy => by
  obtain ⟨k, e, _⟩ := rangeD_mem (List.mem_filter.mp hy).1
  exact ⟨k, e⟩
theorem mem_range {m x : Int} (h0 : 0 ≤ x) (h1 : x < m) : D.int x ∈ rangeD 0 m := by
  unfold rangeD
  refine List.mem_map.mpr ⟨x.toNat, List.mem_range.mpr (by omega), ?_⟩
  congr 1
  omega
theorem any_range {m x : Int} {f : D → Bool} : ((rangeD 0 m).filter f).any (fun y => deq y (.int x)) = (decide (0 ≤ x ∧ x < m) && f (.int x)) := by
  rw [Bool.eq_iff_iff, List.any_eq_true, Bool.and_eq_true, decide_eq_true_eq]
  constructor
  · rintro ⟨y, hy, e⟩
    obtain ⟨h1, h2⟩ := List.mem_filter.mp hy
    obtain ⟨k, rfl, k0, k1⟩ := rangeD_mem h1
    rw [deq_int] at e
    obtain rfl : k = x := beq_iff_eq.mp e
    exact ⟨⟨k0, k1⟩, h2⟩
  · rintro ⟨⟨h0, h1⟩, h2⟩
    exact ⟨_, List.mem_filter.mpr ⟨mem_range h0 h1, h2⟩, by rw [deq_int]; simp⟩
theorem empty_range {m : Int} {f : D → Bool} : ((rangeD 0 m).filter f).isEmpty = true ↔ ∀ k : Int, 0 ≤ k → k < m → f (.int k) = false := by
  rw [List.isEmpty_iff, List.filter_eq_nil_iff]
  constructor
  · intro q k h0 h1
    exact Bool.eq_false_iff.mpr (q _ (mem_range h0 h1))
  · intro q d hd
    obtain ⟨k, rfl, h0, h1⟩ := rangeD_mem hd
    rw [q k h0 h1]
    simp
theorem o_le_nat (a b : Nat) : ((a : Int) ≤ (b : Int)) = (a ≤ b) := by simp
theorem cut_to (w : List Nat) (n : Nat) : cut w none (some (n : Int)) = w.take n := by
  have h1 : ¬ ((n : Int) < 0) := by omega
  simp [cut, clip, h1]
theorem cut_from (w : List Nat) {n : Nat} (h : n ≤ w.length) : cut w (some (((w.length : Nat) : Int) - (n : Nat))) none = w.drop (w.length - n) := by
  have h1 : ¬ (((w.length : Nat) : Int) - (n : Nat) < 0) := by omega
  have h2 : min ((((w.length : Nat) : Int) - (n : Nat)).toNat) w.length = w.length - n := by omega
  simp only [cut, clip, h1, if_false, h2]
  rw [List.take_of_length_le]
  rw [List.length_drop]
  omega
section
variable {σ : S} {h h1 h2 : List O} {d : D} {t : T} {a b : Ms} {x y : E}
theorem stepF (e : t σ h = .ok false h1) : sSeq (sIf t a sPass) b σ h = b σ h1 := by
  simp [sSeq, sIf, e, stmt_ok, sPass]
end
section
variable {σ : S} {h h1 h2 : List O} {d : D} {t : T} {a b : Ms} {x y : E}
theorem stepT (e : t σ h = .ok true h1) (r : a σ h1 = .rt d h2) : sSeq (sIf t a sPass) b σ h = .rt d h2 := by
  simp [sSeq, sIf, e, stmt_ok, r]
end
section
variable {σ : S} {h h1 h2 : List O} {d : D} {t : T} {a b : Ms} {x y : E}
theorem stepS {i : Nat} (e : x σ h = .ok d h1) : sSeq (sSet i x) b σ h = b (σ.set i (.val d)) h1 := by
  simp [sSeq, sSet, e, stmt_ok]
end
section
variable {σ : S} {h h1 h2 : List O} {d : D} {t : T} {a b : Ms} {x y : E}
theorem retR (e : x σ h = .ok d h1) : sRet x σ h = .rt d h1 := by
  simp [sRet, e, stmt_ok]
end
section
variable {σ : S} {h h1 h2 : List O} {d : D} {t : T} {a b : Ms} {x y : E}
theorem runR {n k : Nat} {ds : List D} (hl : ds.length = k) (e : b (ds.map .val ++ List.replicate (n - k) .no) h = .rt d h1) : run n k b ds h = .ok d h1 := by
  simp [run, hl, e]
end
section
variable {σ : S} {h h1 h2 : List O} {d : D} {t : T} {a b : Ms} {x y : E}
theorem andF (e : x σ h = .ok (.bl false) h1) : eAnd x y σ h = .ok (.bl false) h1 := by
  simp [eAnd, bindM, e, nx_ok, pTruth, truth, ofOpt, retM]
end
section
variable {σ : S} {h h1 h2 : List O} {d : D} {t : T} {a b : Ms} {x y : E}
theorem andT (e : x σ h = .ok (.bl true) h1) : eAnd x y σ h = y σ h1 := by
  simp [eAnd, bindM, e, nx_ok, pTruth, truth, ofOpt, retM]
end
section
variable {σ : S} {h h1 h2 : List O} {d : D} {t : T} {a b : Ms} {x y : E}
theorem kindR {i : Nat} {a b : List Nat} {c : Bool} (e : σ[i]? = some (.val (.str a))) (hc : (a == b) = c) : tOf (e2 pEq (eVar i) (eC (.str b))) σ h = .ok c h := by
  subst hc
  simp [tOf, e2, bindM, eVar, e, nx_ok, eC, retM, pEq_str, pTruth, truth, ofOpt]
end
section
variable {σ : S} {h h1 h2 : List O} {d : D} {t : T} {a b : Ms} {x y : E}
theorem kindI {i : Nat} {a : List Nat} {c : Bool} (bs : List (List Nat)) (e : σ[i]? = some (.val (.str a))) (hc : (bs.any fun b => b == a) = c) : tOf (e2 pIn (eVar i) (eTup (bs.map fun b => eC (.str b)))) σ h = .ok c h := by
  subst hc
  have z : ∀ bs : List (List Nat), evs (bs.map fun b => eC (.str b)) σ h = .ok (bs.map .str) h := by
    intro bs
    induction bs with
    | nil => rfl
    | cons b r ih => simp [evs, bindM, eC, retM, nx_ok, ih]
  have fl : (bs.map D.str).all flat = true := by simp [flat]
  simp [tOf, e2, bindM, eVar, e, nx_ok, eTup, eN, z, mkTup, retM, pIn, inD, flat, ofOpt, pTruth, truth, List.any_map, Function.comp_def, deq_str]
end
theorem chain_le {σ : S} {h : List O} {a b c : E} {x y z : List Nat} (ha : a σ h = .ok (.str x) h) (hb : b σ h = .ok (.str y) h) (hc : c σ h = .ok (.str z) h) : eChain pLe pLe a b c σ h = .ok (.bl (decide (x ≤ y) && decide (y ≤ z))) h := by
  cases h1 : decide (x ≤ y) with
  | true => simp only [eChain, bindM, ha, nx_ok, hb, pLe, pCmp, h1, retM, hc, Bool.true_and]
  | false => simp only [eChain, bindM, ha, nx_ok, hb, pLe, pCmp, h1, retM, Bool.false_and]
theorem idx_str {s : List Nat} {k : Int} (h0 : 0 ≤ k) (h1 : k < s.length) : pIdx (.str s) (.int k) = ret (.str [s.getD k.toNat 0]) := by
  have h2 : k.toNat < s.length := by omega
  simp [pIdx, getAt, ixOf, h0, h1, h2, ofOpt]
theorem cut_at (w : List Nat) {k : Int} (n : Nat) (h0 : 0 ≤ k) (h1 : k ≤ w.length) : cut w (some k) (some (k + (n : Int))) = (w.drop k.toNat).take n := by
  have e1 : ¬ k < 0 := by omega
  have e2 : ¬ k + (n : Int) < 0 := by omega
  simp only [cut, clip, e1, e2, if_false]
  rw [Nat.min_eq_left (by omega : k.toNat ≤ w.length), List.take_eq_take_iff, List.length_drop]
  omega
theorem strs_signs : ∀ s : List Nat, strsOf (signs s) = some (s.map fun c => [c])
  | [] => rfl
  | c :: s => by
    show strsOf (.str [c] :: signs s) = _
    rw [strsOf, strs_signs s]
    rfl
theorem join_signs : ∀ s : List Nat, joinL [] (s.map fun c => [c]) = s
  | [] => rfl
  | [c] => rfl
  | c :: d :: s => by
    have ih := join_signs (d :: s)
    simp only [List.map_cons] at ih ⊢
    rw [joinL, ih]
    · rfl
    · intro q; cases q
theorem join_ok {s : List Nat} (hs : s.length ≤ 1000) (h : List O) : pJoin (.str []) (.lst (signs s)) h = .ok (.str s) h := by
  have e : ((s.map fun c => [c]).map (·.length)).sum = s.length := by
    clear hs
    induction s with
    | nil => rfl
    | cons c s ih => simp at ih ⊢; omega
  have l : ((s.map fun c => [c]).map (·.length)).sum + (s.map fun c => [c]).length * 0 ≤ 16000000 := by rw [e]; omega
  simp only [pJoin, seqOf, Option.bind_some, strs_signs, List.length_nil]
  rw [if_pos l, join_signs]
  rfl
theorem small_ok {i : Int} (h0 : -1000 ≤ i) (h1 : i ≤ 1000) : small i = true := by
  unfold small
  rw [Bool.and_eq_true, decide_eq_true_eq, decide_eq_true_eq]
  omega
theorem range_len {m : Int} (h : m ≤ 1000) : (rangeD 0 m).length ≤ 16000000 := by
  rw [rangeD_len]
  omega
theorem range_it {a : E} {σ : S} {h : List O} {i : Int} (e : a σ h = .ok (.int i) h) (s : small i = true) : iRange1 a σ h = .ok (rangeD 0 i) h := by
  simp [iRange1, bindM, e, nx_ok, s, retM]
section
variable {σ : S} {h h1 h2 : List O} {d u v : D} {t : T} {a b : E}
theorem kindN {i : Nat} {a b : List Nat} {c : Bool} (e : σ[i]? = some (.val (.str a))) (hc : (!(a == b)) = c) : tOf (e2 pNe (eVar i) (eC (.str b))) σ h = .ok c h := by
  subst hc
  simp [tOf, e2, bindM, eVar, e, nx_ok, eC, retM, pNe_str, pTruth, truth, ofOpt]
end
section
variable {σ : S} {h h1 h2 : List O} {d u v : D} {t : T} {a b : E}
theorem ifT (e : t σ h = .ok true h1) : eIf t a b σ h = a σ h1 := by
  simp [eIf, bindM, e, nx_ok]
end
section
variable {σ : S} {h h1 h2 : List O} {d u v : D} {t : T} {a b : E}
theorem ifF (e : t σ h = .ok false h1) : eIf t a b σ h = b σ h1 := by
  simp [eIf, bindM, e, nx_ok]
end
section
variable {σ : S} {h h1 h2 : List O} {d u v : D} {t : T} {a b : E}
theorem e2_ok {f : D → D → M D} (x : a σ h = .ok u h1) (y : b σ h1 = .ok v h2) : e2 f a b σ h = f u v h2 := by
  simp [e2, bindM, x, y, nx_ok]
end
section
variable {σ : S} {h h1 h2 : List O} {d u v : D} {t : T} {a b : E}
theorem e1_ok {f : D → M D} (x : a σ h = .ok u h1) : e1 f a σ h = f u h1 := by
  simp [e1, bindM, x, nx_ok]
end
section
variable {σ : S} {h h1 h2 : List O} {d u v : D} {t : T} {a b : E}
theorem not_ok {c : Bool} (x : a σ h = .ok (.bl c) h1) : eNot a σ h = .ok (.bl (!c)) h1 := by
  simp [eNot, bindM, x, nx_ok, pTruth, truth, ofOpt, retM]
end
section
variable {σ : S} {h h1 h2 : List O} {d u v : D} {t : T} {a b : E}
theorem and_ok {c e : Bool} (x : a σ h = .ok (.bl c) h) (y : b σ h = .ok (.bl e) h) : eAnd a b σ h = .ok (.bl (c && e)) h := by
  cases c <;> simp [eAnd, bindM, x, y, nx_ok, pTruth, truth, ofOpt, retM]
end
theorem s2_ok {f : D → D → M D} {a b : E} {σ : S} {h h1 h2 : List O} {s : List Nat} {v : D} (x : a σ h = .ok (.str s) h1) (y : b σ h1 = .ok v h2) : eS2 f a b σ h = f (.str s) v h2 := by
  simp [eS2, bindM, x, y, nx_ok, isStr]
theorem pIn_lst {x : D} {ys : List D} (fx : flat x = true) (fl : ys.all flat = true) : pIn x (.lst ys) = ret (.bl (ys.any fun y => deq y x)) := by
  have z : inD x (.lst ys) = some (ys.any fun y => deq y x) := by
    cases x <;> first
      | (simp [flat] at fx; done)
      | (show (if _ ∧ _ then _ else _) = _
         exact if_pos ⟨rfl, fl⟩)
  unfold pIn
  rw [z]
  rfl
theorem en_ok {f : List D → M D} {as : List E} {σ : S} {h h1 h2 : List O} {xs : List D} {y : D} (e : evs as σ h = .ok xs h1) (e' : f xs h1 = .ok y h2) : eN f as σ h = .ok y h2 := by
  simp [eN, bindM, e, nx_ok, e']
theorem ev_nil {σ : S} {h : List O} : evs [] σ h = .ok [] h := rfl
theorem ev_cons {a : E} {as : List E} {σ : S} {h h1 h2 : List O} {x : D} {xs : List D} (e : a σ h = .ok x h1) (e' : evs as σ h1 = .ok xs h2) : evs (a :: as) σ h = .ok (x :: xs) h2 := by
  simp [evs, bindM, e, nx_ok, e', retM]
theorem tup2 {f : List D → M D} {as : List E} {i : Nat} {σ : S} {h h1 : List O} {x y : D} (hx : eVar i σ h = .ok x h) (e : eN f as σ h = .ok y h1) : eTup [eVar i, eN f as] σ h = .ok (.tup [x, y]) h1 :=
  en_ok (ev_cons hx (ev_cons e ev_nil)) rfl
theorem tup3 {f g : List D → M D} {as bs : List E} {i : Nat} {σ : S} {h h1 h2 : List O} {x y z : D} (hx : eVar i σ h = .ok x h) (e : eN f as σ h = .ok y h1) (e' : eN g bs σ h1 = .ok z h2) : eTup [eVar i, eN f as, eN g bs] σ h = .ok (.tup [x, y, z]) h2 :=
  en_ok (ev_cons hx (ev_cons e (ev_cons e' ev_nil))) rfl
theorem tx_az {s : List Nat} {a b : Int} {a' b' : Nat} {sg big : List Nat} (h1 : a ≤ s.length) (h2 : (s.length : Int) ≤ b) (e1 : a = a') (e2 : b = b') (h3 : ∀ c ∈ s, c ∈ sg) (hs : ∀ c ∈ sg, c ∈ big) : Tx s a' b' big :=
  ⟨by omega, by omega, fun c hc => hs c (h3 c hc)⟩
theorem heard_ok {e : E} {σ : S} {h h1 : List O} {v : D} (q : e σ h = .er "BadArgument" [v] h1) : eHeard e σ h = .ok (.tup [.str (cps "bad"), v, .bl true]) h1 := by
  simp [eHeard, q, heardAs]
theorem en_er {f : List D → M D} {as : List E} {σ : S} {h h1 h2 : List O} {xs vs : List D} {c : String} (e : evs as σ h = .ok xs h1) (e' : f xs h1 = .er c vs h2) : eN f as σ h = .er c vs h2 := by
  simp [eN, bindM, e, nx_ok, e']
section
variable {σ σ' : S} {h h1 h2 : List O} {d : D} {b : Ms} {x : E} {g : G} {it : I} {ds : List D} {a : Ms}
theorem stepA (e : x σ h = .ok d h1) (hg : g d σ = some σ') : sSeq (sAsg x g) b σ h = b σ' h1 := by
  simp [sSeq, sAsg, e, stmt_ok, hg]
end
section
variable {σ σ' : S} {h h1 h2 : List O} {d : D} {b : Ms} {x : E} {g : G} {it : I} {ds : List D} {a : Ms}
theorem stepFor (hi : it σ h = .ok ds h1) (e : forGo g a ds σ h1 = .nx σ' h2) : sSeq (sFor it g a) b σ h = b σ' h2 := by
  simp [sSeq, sFor, hi, stmt_ok, e]
end
end Cf
set_option Elab.async false
set_option linter.all false
set_option maxRecDepth 100000
set_option maxHeartbeats 4000000
/-! CpD: what is drawn -/
namespace Cf
def Rw (h : List O) : Prop := ∃ (ns : List Int) (i c d : Int), h = [.lst [.lst (ns.map D.int), .int i, .int c, .int d]] ∧ 0 ≤ i
theorem taken {h : List O} (r : Rw h) {m : Int} (m1 : 0 < m) (m2 : m < 1000000) : ∃ v h', m__law_taken [.ref 0, .int m] h = .ok (.int v) h' ∧ 0 ≤ v ∧ v < m ∧ Rw h' := by
  obtain ⟨ns, i, c, d, rfl, hi⟩ := r
  have lo := fun x => Int.emod_nonneg x (show m ≠ 0 by omega)
  have hi2 := fun x => Int.emod_lt_of_pos x m1
  have g1 : m < 2147483648 := by omega
  have g2 : m < 1073741824 := by omega
  by_cases hd : 0 < d
  · refine ⟨d % m, [.lst [.lst (ns.map D.int), .int i, .int c, .int (d / m)]], ?_, lo _, hi2 _, ns, i, c, d / m, rfl, hi⟩
    simp [m__law_taken, run, b__law_taken, sSeq, sIf, tOf, e2, eVar, eC, e1, bindM, pureM, retM, nx_ok, stmt_ok, pIdx, refGet, getAt, ixOf, ofOpt, pGt, pCmp, pTruth, truth, hd, sSet, pMod, pInt, m1, g1, g2, pFDiv, sSetItem, setRef, sRet]
  · by_cases hl : (ns.length : Int) < i + 1
    · refine ⟨((c * 48271 + 11) % 2147483647 / 7) % m, [.lst [.lst (ns.map D.int), .int (i + 1), .int ((c * 48271 + 11) % 2147483647), .int d]], ?_, lo _, hi2 _, ns, i + 1, _, d, rfl, by omega⟩
      simp [m__law_taken, run, b__law_taken, sSeq, sIf, tOf, e2, eVar, eC, e1, bindM, pureM, retM, nx_ok, stmt_ok, pIdx, refGet, getAt, ixOf, ofOpt, pGt, pCmp, pTruth, truth, hd, sSet, pMod, pInt, m1, g1, g2, pFDiv, sSetItem, setRef, sRet, sPass, hl, pAdd, pMul, pLen]
    · have hj : i.toNat < ns.length := by omega
      obtain ⟨x, hx⟩ : ∃ x, ns[i.toNat] = x := ⟨_, rfl⟩
      have hi3 : i < (ns.length : Int) := by omega
      by_cases hb : (1000000000000000000 : Int) ≤ x
      · refine ⟨x % m, [.lst [.lst (ns.map D.int), .int (i + 1), .int ((c * 48271 + x + 11) % 2147483647), .int (x / m)]], ?_, lo _, hi2 _, ns, i + 1, _, _, rfl, by omega⟩
        simp [m__law_taken, run, b__law_taken, sSeq, sIf, tOf, e2, eVar, eC, e1, bindM, pureM, retM, nx_ok, stmt_ok, pIdx, refGet, getAt, ixOf, ofOpt, pGt, pCmp, pTruth, truth, hd, sSet, pMod, pInt, m1, g1, g2, pFDiv, sSetItem, setRef, sRet, sPass, hl, pAdd, pMul, pLen, pSub, hi, hx, hi3, hj, pGe, pPow, hb]
      · refine ⟨x % m, [.lst [.lst (ns.map D.int), .int (i + 1), .int ((c * 48271 + x + 11) % 2147483647), .int d]], ?_, lo _, hi2 _, ns, i + 1, _, _, rfl, by omega⟩
        simp [m__law_taken, run, b__law_taken, sSeq, sIf, tOf, e2, eVar, eC, e1, bindM, pureM, retM, nx_ok, stmt_ok, pIdx, refGet, getAt, ixOf, ofOpt, pGt, pCmp, pTruth, truth, hd, sSet, pMod, pInt, m1, g1, g2, pFDiv, sSetItem, setRef, sRet, sPass, hl, pAdd, pMul, pLen, pSub, hi, hx, hi3, hj, pGe, pPow, hb]
theorem pick {h : List O} (r : Rw h) {xs : List D} (hx : xs ≠ []) (hl : xs.length < 1000000) : ∃ x h', m__law_pick [.ref 0, .lst xs] h = .ok x h' ∧ x ∈ xs ∧ Rw h' := by
  have h0 : 0 < xs.length := List.length_pos_iff.mpr hx
  obtain ⟨v, h1, e, v0, v1, r1⟩ := taken r (m := (xs.length : Int)) (by omega) (by omega)
  have hv : v.toNat < xs.length := by omega
  refine ⟨xs[v.toNat], h1, ?_, List.getElem_mem _, r1⟩
  simp [m__law_pick, run, b__law_pick, sRet, e2, e1, eVar, eN, evs, bindM, retM, nx_ok, stmt_ok, pLen, e, pIdx, getAt, ixOf, v0, v1, ofOpt, hv]
theorem text {h : List O} (r : Rw h) {a b : Int} {sg : List Nat} (ha : 0 ≤ a) (hab : a ≤ b) (hb : b ≤ 100) (hs : sg ≠ []) (hl : sg.length < 1000000) :
    ∃ s h', m__law_text [.ref 0, .int a, .int b, .str sg] h = .ok (.str s) h' ∧ a ≤ s.length ∧ (s.length : Int) ≤ b ∧ (∀ c ∈ s, c ∈ sg) ∧ Rw h' := by
  have h0 : 0 < sg.length := List.length_pos_iff.mpr hs
  obtain ⟨v, h1, e, v0, v1, r1⟩ := taken r (m := b - a + 1) (by omega) (by omega)
  obtain ⟨ys, h2, e2', ly, py, r2⟩ := comp_draw (P := fun y => ∃ c ∈ sg, y = .str [c]) (g := gVar 4) (e := e2 pIdx (eVar 3) (eN m__law_taken [eVar 0, e1 pLen (eVar 3)])) (σ := [.val (.ref 0), .val (.int a), .val (.int b), .val (.str sg), .no]) Rw (rangeD 0 (a + v)) h1 r1 (fun d hd => by
    obtain ⟨k, rfl, _, _⟩ := rangeD_mem hd
    refine ⟨[.val (.ref 0), .val (.int a), .val (.int b), .val (.str sg), .val (.int k)], rfl, fun h r => ?_⟩
    obtain ⟨u, h1, e, v0, v1, r1⟩ := taken r (m := (sg.length : Int)) (by omega) (by omega)
    have hu : u.toNat < sg.length := by omega
    refine ⟨.str [sg[u.toNat]], h1, ?_, ⟨_, List.getElem_mem _, rfl⟩, r1⟩
    simp [e2, e1, eVar, eN, evs, bindM, retM, nx_ok, pLen, e, pIdx, getAt, ixOf, v0, v1, ofOpt, hu])
  obtain ⟨ts, t1, t2, t3, t4⟩ := strs_join py
  rw [rangeD_len] at ly
  have sm : small (a + v) = true := by
    unfold small
    rw [Bool.and_eq_true, decide_eq_true_eq, decide_eq_true_eq]
    omega
  have hl1 : ys.length ≤ 16000000 := by omega
  refine ⟨joinL [] ts, h2, ?_, by omega, by omega, t4, r2⟩
  simp [m__law_text, run, b__law_text, sRet, eS2, eC, isStr, cps, e2, e1, eVar, eN, evs, bindM, retM, nx_ok, stmt_ok, pSub, pAdd, e, eComp, comp, iRange1, sm, wipe, noer, pJoin, seqOf, t1, t2]
  rw [show (compGo (gVar 4) tYes (e2 pIdx (eVar 3) (eN m__law_taken [eVar 0, e1 pLen (eVar 3)])) [.val (.ref 0), .val (.int a), .val (.int b), .val (.str sg), .no] (rangeD 0 (a + v)) h1) = _ from e2']
  simp [nx_ok, hl1, retM, t1, t2, stmt_ok]
theorem pick_in {h : List O} (r : Rw h) {xs : List D} (hx : xs ≠ []) (hl : xs.length < 1000000) {σ : S} {a : E} (h0 : σ[0]? = some (.val (.ref 0))) (e : a σ h = .ok (.lst xs) h) : ∃ x h', eN m__law_pick [eVar 0, a] σ h = .ok x h' ∧ x ∈ xs ∧ Rw h' := by
  obtain ⟨x, h1, e1, hx, r1⟩ := pick r hx hl
  exact ⟨x, h1, en_ok (ev_cons (by simp [eVar, h0]) (ev_cons e ev_nil)) e1, hx, r1⟩
theorem text_in {h : List O} (r : Rw h) {a b : Int} {sg : List Nat} (ha : 0 ≤ a) (hab : a ≤ b) (hb : b ≤ 100) (hs : sg ≠ []) (hl : sg.length < 1000000) {σ : S} (h0 : σ[0]? = some (.val (.ref 0))) :
    ∃ s h', eN m__law_text [eVar 0, eC (.int a), eC (.int b), eC (.str sg)] σ h = .ok (.str s) h' ∧ a ≤ s.length ∧ (s.length : Int) ≤ b ∧ (∀ c ∈ s, c ∈ sg) ∧ Rw h' := by
  obtain ⟨s, h1, e, q1, q2, q3, r1⟩ := text r ha hab hb hs hl
  exact ⟨s, h1, en_ok (ev_cons (by simp [eVar, h0]) (ev_cons rfl (ev_cons rfl (ev_cons rfl ev_nil)))) e, q1, q2, q3, r1⟩
end Cf
set_option Elab.async false
set_option linter.all false
set_option maxRecDepth 100000
set_option maxHeartbeats 4000000
/-! CpC: clues -/
namespace Cf
inductive Cl where
  | like (p : List Nat)
  | begins (t : List Nat)
  | ends (t : List Nat)
  | holds (t : List Nat)
  | count (c : Nat) (n : Int)
  | frm (a b : List Nat)
  | back (w : List Nat)
  | turned
  | neg (c : Cl)
  | both (c d : Cl)
  | either (c d : Cl)
def toD : Cl → D
  | .like p => .tup [k_LIKE, .str p]
  | .begins t => .tup [k_BEGINS, .str t]
  | .ends t => .tup [k_ENDS, .str t]
  | .holds t => .tup [k_HOLDS, .str t]
  | .count c n => .tup [k_COUNT, .str [c], .int n]
  | .frm a b => .tup [k_FROM, .str a, .str b]
  | .back w => .tup [k_BACK, .str w]
  | .turned => .tup [k_TURNED]
  | .neg c => .tup [k_NOT, toD c]
  | .both c d => .tup [k_BOTH, toD c, toD d]
  | .either c d => .tup [k_EITHER, toD c, toD d]
def okC : Cl → Prop
  | .like p => Tx p 2 4 (az ++ [63])
  | .begins t => Tx t 1 4 az
  | .ends t => Tx t 1 4 az
  | .holds t => Tx t 1 4 az
  | .count c n => c ∈ az ∧ 0 ≤ n ∧ n ≤ 4
  | .frm a b => Tx a 1 4 az ∧ Tx b 1 4 az
  | .back w => Tx w 2 4 az
  | .turned => True
  | .neg c => okC c
  | .both c d => okC c ∧ okC d
  | .either c d => okC c ∧ okC d
def dep : Cl → Nat
  | .neg c => dep c + 1
  | .both c d => max (dep c) (dep d) + 1
  | .either c d => max (dep c) (dep d) + 1
  | _ => 1
theorem is_text {s sg : List Nat} {a b : Nat} (q : Tx s a b sg) (h : List O) : m_is_text_of [.str s, .int a, .int b, .str sg] h = .ok (.bl true) h := by
  obtain ⟨q1, q2, q3⟩ := q
  have e := allGo_all (g := gVar 4) (t := tBl (e2 pIn (eVar 4) (eVar 3))) (σ := [.val (.str s), .val (.int a), .val (.int b), .val (.str sg), .no]) (h := h) (signs s) (fun d hd => by
    obtain ⟨c, hc, rfl⟩ := List.mem_map.mp hd
    exact ⟨_, rfl, by simp [tBl, e2, eVar, bindM, nx_ok, retM, pIn, inD, subIn_one, q3 c hc, ofOpt]⟩)
  simp [m_is_text_of, run, b_is_text_of, sRet, eAnd, e1, eVar, bindM, nx_ok, stmt_ok, pIsi, askable, isTy, retM, pTruth, truth, ofOpt, eChain, pLe, pCmp, pLen, eAll, iOf, itemsOf, noer, wipe, q1, q2]
  simp [e, nx_ok, stmt_ok, retM]
theorem is_word_ok {s : List Nat} (q : Tx s 2 4 az) (h : List O) : m_is_word [.str s] h = .ok (.bl true) h := by
  have e := is_text q h
  simp [m_is_word, run, b_is_word, sRet, eN, evs, eVar, eC, bindM, retM, nx_ok]
  rw [show m_is_text_of [.str s, k_LEAST_LETTERS, k_MOST_LETTERS, k_LETTERS] h = _ from e]
  rfl
theorem is_pattern_ok {s : List Nat} (q : Tx s 2 4 (az ++ [63])) (h : List O) : m_is_pattern [.str s] h = .ok (.bl true) h := by
  have e := is_text q h
  have e2 : pAdd k_LETTERS k_ANY h = .ok (.str (az ++ [63])) h := by rfl
  simp [m_is_pattern, run, b_is_pattern, sRet, eN, evs, eVar, eC, bindM, retM, nx_ok, Cf.e2, e2]
  rw [show m_is_text_of [.str s, k_LEAST_LETTERS, k_MOST_LETTERS, .str (az ++ [63])] h = _ from e]
  rfl
theorem is_number_ok {n : Int} {a b : Int} (h1 : a ≤ n) (h2 : n ≤ b) (h : List O) : m_is_number [.int n, .int a, .int b] h = .ok (.bl true) h := by
  simp [m_is_number, run, b_is_number, sRet, eAnd, e1, eVar, bindM, nx_ok, stmt_ok, pIsi, askable, isTy, retM, pTruth, truth, ofOpt, eChain, pLe, pCmp, eNot, h1, h2]
theorem l_like : t_SIZES.lookup [108, 105, 107, 101] = some 2 := by decide
theorem l_begins : t_SIZES.lookup [98, 101, 103, 105, 110, 115] = some 2 := by decide
theorem l_ends : t_SIZES.lookup [101, 110, 100, 115] = some 2 := by decide
theorem l_holds : t_SIZES.lookup [104, 111, 108, 100, 115] = some 2 := by decide
theorem l_count : t_SIZES.lookup [99, 111, 117, 110, 116] = some 3 := by decide
theorem l_from : t_SIZES.lookup [102, 114, 111, 109] = some 3 := by decide
theorem l_back : t_SIZES.lookup [98, 97, 99, 107] = some 2 := by decide
theorem l_turned : t_SIZES.lookup [116, 117, 114, 110, 101, 100] = some 1 := by decide
theorem l_not : t_SIZES.lookup [110, 111, 116] = some 2 := by decide
theorem l_both : t_SIZES.lookup [98, 111, 116, 104] = some 3 := by decide
theorem l_either : t_SIZES.lookup [101, 105, 116, 104, 101, 114] = some 3 := by decide
theorem is_clue_ok : ∀ (c : Cl) (n : Nat) (d : Int) (h : List O), okC c → dep c ≤ n → (dep c : Int) ≤ d → m_is_clue_of n [toD c, .int d] h = .ok (.bl true) h
  | c, 0, d, h, _, hn, _ => by cases c <;> simp [dep] at hn
  | .like p, n + 1, d, h, ok, hn, hd => by
    have hd0 : d ≠ 0 := by simp [dep] at hd; omega
    have e := is_pattern_ok ok h
    simp [run, sSeq, sIf, sPass, sRet, sSet, tOr, tNot, tOf, tBl, e1, e2, eVar, eC, bindM, nx_ok, stmt_ok, pIsi, askable, isTy, retM, pTruth, truth, ofOpt, toD, pLen, pEq_str, pEq_int, pNe_str, pNe_int, deq_str, pIdx, getAt, ixOf, pNotInTab, pGetTab, l_like, l_begins, l_ends, l_holds, l_count, l_from, l_back, l_turned, l_not, l_both, l_either, c_like, c_begins, c_ends, c_holds, c_count, c_from, c_back, c_turned, c_not, c_both, c_either, eTup, eN, evs, mkTup, pIn, inD, flat, eIf, eAnd, eAll, iOf, itemsOf, eSlice, optInt, pSlice, cut, clip, noer, allGo, wipe, pSub, gVar, m_is_clue_of, b_is_clue_of, hd0, e]
  | .begins t, n + 1, d, h, ok, hn, hd => by
    have hd0 : d ≠ 0 := by simp [dep] at hd; omega
    have e : m_is_text_of [.str t, .int 1, k_MOST_LETTERS, k_LETTERS] h = .ok (.bl true) h := is_text ok h
    simp [run, sSeq, sIf, sPass, sRet, sSet, tOr, tNot, tOf, tBl, e1, e2, eVar, eC, bindM, nx_ok, stmt_ok, pIsi, askable, isTy, retM, pTruth, truth, ofOpt, toD, pLen, pEq_str, pEq_int, pNe_str, pNe_int, deq_str, pIdx, getAt, ixOf, pNotInTab, pGetTab, l_like, l_begins, l_ends, l_holds, l_count, l_from, l_back, l_turned, l_not, l_both, l_either, c_like, c_begins, c_ends, c_holds, c_count, c_from, c_back, c_turned, c_not, c_both, c_either, eTup, eN, evs, mkTup, pIn, inD, flat, eIf, eAnd, eAll, iOf, itemsOf, eSlice, optInt, pSlice, cut, clip, noer, allGo, wipe, pSub, gVar, m_is_clue_of, b_is_clue_of, hd0, e]
  | .ends t, n + 1, d, h, ok, hn, hd => by
    have hd0 : d ≠ 0 := by simp [dep] at hd; omega
    have e : m_is_text_of [.str t, .int 1, k_MOST_LETTERS, k_LETTERS] h = .ok (.bl true) h := is_text ok h
    simp [run, sSeq, sIf, sPass, sRet, sSet, tOr, tNot, tOf, tBl, e1, e2, eVar, eC, bindM, nx_ok, stmt_ok, pIsi, askable, isTy, retM, pTruth, truth, ofOpt, toD, pLen, pEq_str, pEq_int, pNe_str, pNe_int, deq_str, pIdx, getAt, ixOf, pNotInTab, pGetTab, l_like, l_begins, l_ends, l_holds, l_count, l_from, l_back, l_turned, l_not, l_both, l_either, c_like, c_begins, c_ends, c_holds, c_count, c_from, c_back, c_turned, c_not, c_both, c_either, eTup, eN, evs, mkTup, pIn, inD, flat, eIf, eAnd, eAll, iOf, itemsOf, eSlice, optInt, pSlice, cut, clip, noer, allGo, wipe, pSub, gVar, m_is_clue_of, b_is_clue_of, hd0, e]
  | .holds t, n + 1, d, h, ok, hn, hd => by
    have hd0 : d ≠ 0 := by simp [dep] at hd; omega
    have e : m_is_text_of [.str t, .int 1, k_MOST_LETTERS, k_LETTERS] h = .ok (.bl true) h := is_text ok h
    simp [run, sSeq, sIf, sPass, sRet, sSet, tOr, tNot, tOf, tBl, e1, e2, eVar, eC, bindM, nx_ok, stmt_ok, pIsi, askable, isTy, retM, pTruth, truth, ofOpt, toD, pLen, pEq_str, pEq_int, pNe_str, pNe_int, deq_str, pIdx, getAt, ixOf, pNotInTab, pGetTab, l_like, l_begins, l_ends, l_holds, l_count, l_from, l_back, l_turned, l_not, l_both, l_either, c_like, c_begins, c_ends, c_holds, c_count, c_from, c_back, c_turned, c_not, c_both, c_either, eTup, eN, evs, mkTup, pIn, inD, flat, eIf, eAnd, eAll, iOf, itemsOf, eSlice, optInt, pSlice, cut, clip, noer, allGo, wipe, pSub, gVar, m_is_clue_of, b_is_clue_of, hd0, e]
  | .count c m, n + 1, d, h, ok, hn, hd => by
    have hd0 : d ≠ 0 := by simp [dep] at hd; omega
    have e : m_is_text_of [.str [c], .int 1, .int 1, k_LETTERS] h = .ok (.bl true) h := is_text (a := 1) (b := 1) ⟨by simp, by simp, by intro x hx; rw [List.mem_singleton.mp hx]; exact ok.1⟩ h
    have eb : m_is_number [.int m, .int 0, k_MOST_LETTERS] h = .ok (.bl true) h := is_number_ok ok.2.1 ok.2.2 h
    simp [run, sSeq, sIf, sPass, sRet, sSet, tOr, tNot, tOf, tBl, e1, e2, eVar, eC, bindM, nx_ok, stmt_ok, pIsi, askable, isTy, retM, pTruth, truth, ofOpt, toD, pLen, pEq_str, pEq_int, pNe_str, pNe_int, deq_str, pIdx, getAt, ixOf, pNotInTab, pGetTab, l_like, l_begins, l_ends, l_holds, l_count, l_from, l_back, l_turned, l_not, l_both, l_either, c_like, c_begins, c_ends, c_holds, c_count, c_from, c_back, c_turned, c_not, c_both, c_either, eTup, eN, evs, mkTup, pIn, inD, flat, eIf, eAnd, eAll, iOf, itemsOf, eSlice, optInt, pSlice, cut, clip, noer, allGo, wipe, pSub, gVar, m_is_clue_of, b_is_clue_of, hd0, e, eb]
  | .frm a b, n + 1, d, h, ok, hn, hd => by
    have hd0 : d ≠ 0 := by simp [dep] at hd; omega
    have e : m_is_text_of [.str a, .int 1, k_MOST_LETTERS, k_LETTERS] h = .ok (.bl true) h := is_text ok.1 h
    have eb : m_is_text_of [.str b, .int 1, k_MOST_LETTERS, k_LETTERS] h = .ok (.bl true) h := is_text ok.2 h
    simp [run, sSeq, sIf, sPass, sRet, sSet, tOr, tNot, tOf, tBl, e1, e2, eVar, eC, bindM, nx_ok, stmt_ok, pIsi, askable, isTy, retM, pTruth, truth, ofOpt, toD, pLen, pEq_str, pEq_int, pNe_str, pNe_int, deq_str, pIdx, getAt, ixOf, pNotInTab, pGetTab, l_like, l_begins, l_ends, l_holds, l_count, l_from, l_back, l_turned, l_not, l_both, l_either, c_like, c_begins, c_ends, c_holds, c_count, c_from, c_back, c_turned, c_not, c_both, c_either, eTup, eN, evs, mkTup, pIn, inD, flat, eIf, eAnd, eAll, iOf, itemsOf, eSlice, optInt, pSlice, cut, clip, noer, allGo, wipe, pSub, gVar, m_is_clue_of, b_is_clue_of, hd0, e, eb]
  | .back w, n + 1, d, h, ok, hn, hd => by
    have hd0 : d ≠ 0 := by simp [dep] at hd; omega
    have e := is_word_ok ok h
    simp [run, sSeq, sIf, sPass, sRet, sSet, tOr, tNot, tOf, tBl, e1, e2, eVar, eC, bindM, nx_ok, stmt_ok, pIsi, askable, isTy, retM, pTruth, truth, ofOpt, toD, pLen, pEq_str, pEq_int, pNe_str, pNe_int, deq_str, pIdx, getAt, ixOf, pNotInTab, pGetTab, l_like, l_begins, l_ends, l_holds, l_count, l_from, l_back, l_turned, l_not, l_both, l_either, c_like, c_begins, c_ends, c_holds, c_count, c_from, c_back, c_turned, c_not, c_both, c_either, eTup, eN, evs, mkTup, pIn, inD, flat, eIf, eAnd, eAll, iOf, itemsOf, eSlice, optInt, pSlice, cut, clip, noer, allGo, wipe, pSub, gVar, m_is_clue_of, b_is_clue_of, hd0, e]
  | .turned, n + 1, d, h, ok, hn, hd => by
    have hd0 : d ≠ 0 := by simp [dep] at hd; omega
    simp [run, sSeq, sIf, sPass, sRet, sSet, tOr, tNot, tOf, tBl, e1, e2, eVar, eC, bindM, nx_ok, stmt_ok, pIsi, askable, isTy, retM, pTruth, truth, ofOpt, toD, pLen, pEq_str, pEq_int, pNe_str, pNe_int, deq_str, pIdx, getAt, ixOf, pNotInTab, pGetTab, l_like, l_begins, l_ends, l_holds, l_count, l_from, l_back, l_turned, l_not, l_both, l_either, c_like, c_begins, c_ends, c_holds, c_count, c_from, c_back, c_turned, c_not, c_both, c_either, eTup, eN, evs, mkTup, pIn, inD, flat, eIf, eAnd, eAll, iOf, itemsOf, eSlice, optInt, pSlice, cut, clip, noer, allGo, wipe, pSub, gVar, m_is_clue_of, b_is_clue_of, hd0]
  | .neg c, n + 1, d, h, ok, hn, hd => by
    simp only [dep] at hn hd
    have hd0 : d ≠ 0 := by omega
    have e := is_clue_ok c n (d - 1) h ok (by omega) (by omega)
    simp [run, sSeq, sIf, sPass, sRet, sSet, tOr, tNot, tOf, tBl, e1, e2, eVar, eC, bindM, nx_ok, stmt_ok, pIsi, askable, isTy, retM, pTruth, truth, ofOpt, toD, pLen, pEq_str, pEq_int, pNe_str, pNe_int, deq_str, pIdx, getAt, ixOf, pNotInTab, pGetTab, l_like, l_begins, l_ends, l_holds, l_count, l_from, l_back, l_turned, l_not, l_both, l_either, c_like, c_begins, c_ends, c_holds, c_count, c_from, c_back, c_turned, c_not, c_both, c_either, eTup, eN, evs, mkTup, pIn, inD, flat, eIf, eAnd, eAll, iOf, itemsOf, eSlice, optInt, pSlice, cut, clip, noer, allGo, wipe, pSub, gVar, m_is_clue_of, b_is_clue_of, hd0, e]
  | .both a b, n + 1, d, h, ok, hn, hd => by
    simp only [dep] at hn hd
    have hd0 : d ≠ 0 := by omega
    have e := is_clue_ok a n (d - 1) h ok.1 (by omega) (by omega)
    have eb := is_clue_ok b n (d - 1) h ok.2 (by omega) (by omega)
    simp [run, sSeq, sIf, sPass, sRet, sSet, tOr, tNot, tOf, tBl, e1, e2, eVar, eC, bindM, nx_ok, stmt_ok, pIsi, askable, isTy, retM, pTruth, truth, ofOpt, toD, pLen, pEq_str, pEq_int, pNe_str, pNe_int, deq_str, pIdx, getAt, ixOf, pNotInTab, pGetTab, l_like, l_begins, l_ends, l_holds, l_count, l_from, l_back, l_turned, l_not, l_both, l_either, c_like, c_begins, c_ends, c_holds, c_count, c_from, c_back, c_turned, c_not, c_both, c_either, eTup, eN, evs, mkTup, pIn, inD, flat, eIf, eAnd, eAll, iOf, itemsOf, eSlice, optInt, pSlice, cut, clip, noer, allGo, wipe, pSub, gVar, m_is_clue_of, b_is_clue_of, hd0, e, eb]
  | .either a b, n + 1, d, h, ok, hn, hd => by
    simp only [dep] at hn hd
    have hd0 : d ≠ 0 := by omega
    have e := is_clue_ok a n (d - 1) h ok.1 (by omega) (by omega)
    have eb := is_clue_ok b n (d - 1) h ok.2 (by omega) (by omega)
    simp [run, sSeq, sIf, sPass, sRet, sSet, tOr, tNot, tOf, tBl, e1, e2, eVar, eC, bindM, nx_ok, stmt_ok, pIsi, askable, isTy, retM, pTruth, truth, ofOpt, toD, pLen, pEq_str, pEq_int, pNe_str, pNe_int, deq_str, pIdx, getAt, ixOf, pNotInTab, pGetTab, l_like, l_begins, l_ends, l_holds, l_count, l_from, l_back, l_turned, l_not, l_both, l_either, c_like, c_begins, c_ends, c_holds, c_count, c_from, c_back, c_turned, c_not, c_both, c_either, eTup, eN, evs, mkTup, pIn, inD, flat, eIf, eAnd, eAll, iOf, itemsOf, eSlice, optInt, pSlice, cut, clip, noer, allGo, wipe, pSub, gVar, m_is_clue_of, b_is_clue_of, hd0, e, eb]
def Good (d : Nat) (x : D) : Prop := ∃ c, x = toD c ∧ okC c ∧ dep c ≤ d
theorem check_er (s : List Nat) (hs : s.length ≤ 1000000) (h : List O) : m_check [.bl false, .str s] h = .er "BadArgument" [.str s] h := by
  simp [m_check, run, b_check, sIf, tNot, tOf, eVar, bindM, nx_ok, pTruth, truth, ofOpt, retM, stmt_ok, sRaise, evs, exOk, exOk1, hs]
theorem check_ok (s : List Nat) (h : List O) : m_check [.bl true, .str s] h = .ok .non h := by
  simp [m_check, run, b_check, sIf, tNot, tOf, eVar, bindM, nx_ok, pTruth, truth, ofOpt, retM, stmt_ok, sPass]
end Cf
set_option Elab.async false
set_option linter.all false
set_option maxRecDepth 100000
set_option maxHeartbeats 4000000
/-! CpG: drawn clues -/
namespace Cf
abbrev K8 : List D := [.str (cps "like"), .str (cps "begins"), .str (cps "ends"), .str (cps "holds"), .str (cps "count"), .str (cps "from"), .str (cps "back"), .str (cps "turned")]
abbrev K3 : List D := [.str (cps "not"), .str (cps "both"), .str (cps "either")]
theorem tail_bgh {h : List O} (r : Rw h) (kd : D) (l : D) (d : Int) : ∃ s h', eTup [eVar 3, eN m__law_text [eVar 0, eC (.int 1), eN m__law_pick [eVar 0, eLst [eC (.int 1), eC (.int 2), eC (.int 4)]], eC (.str (cps "abc"))]] [.val (.ref 0), .val (.int d), .val l, .val kd, .no] h = .ok (.tup [kd, .str s]) h' ∧ Tx s 1 4 az ∧ Rw h' := by
  obtain ⟨x, h1, e1, hx, r1⟩ := pick_in r (xs := [.int 1, .int 2, .int 4]) (by simp) (by simp) (σ := [.val (.ref 0), .val (.int d), .val l, .val kd, .no]) (a := eLst [eC (.int 1), eC (.int 2), eC (.int 4)]) rfl rfl
  have hm : ∃ b : Int, x = .int b ∧ 1 ≤ b ∧ b ≤ 4 := by
    simp only [List.mem_cons, List.not_mem_nil, or_false] at hx
    rcases hx with rfl | rfl | rfl <;> exact ⟨_, rfl, by decide, by decide⟩
  obtain ⟨b, rfl, b1, b4⟩ := hm
  obtain ⟨s, h2, e2', q1, q2, q3, r2⟩ := text r1 (a := 1) (b := b) (sg := cps "abc") (by decide) b1 (by omega) (by decide) (by decide)
  have t1 : Tx s 1 4 az := ⟨by omega, by omega, fun c hc => (by decide : ∀ c ∈ cps "abc", c ∈ az) c (q3 c hc)⟩
  exact ⟨s, h2, tup2 rfl (en_ok (ev_cons rfl (ev_cons rfl (ev_cons e1 (ev_cons rfl ev_nil)))) e2'), t1, r2⟩
theorem tail_text {h : List O} (r : Rw h) (kd l : D) (d : Int) {a b : Int} {sg : List Nat} (ha : 0 ≤ a) (hab : a ≤ b) (hb : b ≤ 100) (hs : sg ≠ []) (hl : sg.length < 1000000) : ∃ s h', eTup [eVar 3, eN m__law_text [eVar 0, eC (.int a), eC (.int b), eC (.str sg)]] [.val (.ref 0), .val (.int d), .val l, .val kd, .no] h = .ok (.tup [kd, .str s]) h' ∧ (a ≤ s.length ∧ (s.length : Int) ≤ b ∧ ∀ c ∈ s, c ∈ sg) ∧ Rw h' := by
  obtain ⟨s, h1, e, q1, q2, q3, r1⟩ := text_in r ha hab hb hs hl (σ := [.val (.ref 0), .val (.int d), .val l, .val kd, .no]) rfl
  exact ⟨s, h1, tup2 rfl e, ⟨q1, q2, q3⟩, r1⟩
theorem tail_count {h : List O} (r : Rw h) (kd l : D) (d : Int) : ∃ c m h', eTup [eVar 3, eN m__law_pick [eVar 0, eLst [eC (.str (cps "a")), eC (.str (cps "b")), eC (.str (cps "c")), eC (.str (cps "z"))]], eN m__law_taken [eVar 0, eN m__law_pick [eVar 0, eLst [eC (.int 2), eC (.int 5)]]]] [.val (.ref 0), .val (.int d), .val l, .val kd, .no] h = .ok (.tup [kd, .str [c], .int m]) h' ∧ (c ∈ az ∧ 0 ≤ m ∧ m ≤ 4) ∧ Rw h' := by
  obtain ⟨x, h1, e1, hx, r1⟩ := pick_in r (xs := [.str (cps "a"), .str (cps "b"), .str (cps "c"), .str (cps "z")]) (by simp) (by simp) (σ := [.val (.ref 0), .val (.int d), .val l, .val kd, .no]) (a := eLst [eC (.str (cps "a")), eC (.str (cps "b")), eC (.str (cps "c")), eC (.str (cps "z"))]) rfl rfl
  have hm : ∃ c, x = .str [c] ∧ c ∈ az := by
    simp only [List.mem_cons, List.not_mem_nil, or_false] at hx
    rcases hx with rfl | rfl | rfl | rfl
    · exact ⟨97, rfl, by decide⟩
    · exact ⟨98, rfl, by decide⟩
    · exact ⟨99, rfl, by decide⟩
    · exact ⟨122, rfl, by decide⟩
  obtain ⟨c, rfl, hc⟩ := hm
  obtain ⟨x, h2, e2', hx, r2⟩ := pick_in r1 (xs := [.int 2, .int 5]) (by simp) (by simp) (σ := [.val (.ref 0), .val (.int d), .val l, .val kd, .no]) (a := eLst [eC (.int 2), eC (.int 5)]) rfl rfl
  have hm : ∃ b : Int, x = .int b ∧ 1 ≤ b ∧ b ≤ 5 := by
    simp only [List.mem_cons, List.not_mem_nil, or_false] at hx
    rcases hx with rfl | rfl <;> exact ⟨_, rfl, by decide, by decide⟩
  obtain ⟨b, rfl, b1, b5⟩ := hm
  obtain ⟨v, h3, e3, v0, v1, r3⟩ := taken r2 (m := b) (by omega) (by omega)
  exact ⟨c, v, h3, tup3 rfl e1 (en_ok (ev_cons rfl (ev_cons e2' ev_nil)) e3), ⟨hc, v0, by omega⟩, r3⟩
theorem tail_from {h : List O} (r : Rw h) (kd l : D) (d : Int) : ∃ s t h', eTup [eVar 3, eN m__law_text [eVar 0, eC (.int 1), eC (.int 4), eC (.str (cps "abcd"))], eN m__law_text [eVar 0, eC (.int 1), eC (.int 4), eC (.str (cps "abcdz"))]] [.val (.ref 0), .val (.int d), .val l, .val kd, .no] h = .ok (.tup [kd, .str s, .str t]) h' ∧ (Tx s 1 4 az ∧ Tx t 1 4 az) ∧ Rw h' := by
  obtain ⟨s, h1, e, q1, q2, q3, r1⟩ := text_in r (a := 1) (b := 4) (sg := cps "abcd") (by decide) (by decide) (by decide) (by decide) (by decide) (σ := [.val (.ref 0), .val (.int d), .val l, .val kd, .no]) rfl
  obtain ⟨t, h2, e', p1, p2, p3, r2⟩ := text_in r1 (a := 1) (b := 4) (sg := cps "abcdz") (by decide) (by decide) (by decide) (by decide) (by decide) (σ := [.val (.ref 0), .val (.int d), .val l, .val kd, .no]) rfl
  exact ⟨s, t, h2, tup3 rfl e e', ⟨⟨by omega, by omega, fun c hc => (by decide : ∀ c ∈ cps "abcd", c ∈ az) c (q3 c hc)⟩, ⟨by omega, by omega, fun c hc => (by decide : ∀ c ∈ cps "abcdz", c ∈ az) c (p3 c hc)⟩⟩, r2⟩
theorem eComp_draw {P : D → Prop} {it : I} {g : G} {e : E} {vs : List Nat} {σ : S} {h : List O} {ds : List D} (hi : it σ h = .ok ds h) (hl : ds.length ≤ 16000000) (r : Rw h) (q : ∀ d ∈ ds, ∃ σ1, g d (wipe σ vs) = some σ1 ∧ ∀ h, Rw h → ∃ y h', e σ1 h = .ok y h' ∧ P y ∧ Rw h') :
    ∃ ys h', eComp it g tYes e vs σ h = .ok (.lst ys) h' ∧ ys.length = ds.length ∧ (∀ y ∈ ys, P y) ∧ Rw h' := by
  obtain ⟨ys, h', e1, e2, e3, e4⟩ := comp_draw Rw ds h r q
  refine ⟨ys, h', ?_, e2, e3, e4⟩
  have l : ys.length ≤ 16000000 := by omega
  simp [eComp, comp, bindM, hi, nx_ok, noer, e1, retM, l]
theorem subs {m : List D → M D} {h : List O} (r : Rw h) (k : List Nat) (l : D) (d c : Int) (hc : c = (if (k == cps "not") = true then 1 else 2)) {P : D → Prop} (q : ∀ h, Rw h → ∃ y h', m [.ref 0, .int (d - 1)] h = .ok y h' ∧ P y ∧ Rw h') :
    ∃ ys h', e2 pAdd (eTup [eVar 3]) (e1 pTuple (eComp (iRange1 (eIf (tOf (e2 pEq (eVar 3) (eC (.str (cps "not"))))) (eC (.int 1)) (eC (.int 2)))) (gVar 4) (tYes) (eN m [eVar 0, e2 pSub (eVar 1) (eC (.int 1))]) [4])) [.val (.ref 0), .val (.int d), .val l, .val (.str k), .no] h = .ok (.tup (.str k :: ys)) h' ∧ ys.length = c.toNat ∧ (∀ y ∈ ys, P y) ∧ Rw h' := by
  have hi : iRange1 (eIf (tOf (e2 pEq (eVar 3) (eC (.str (cps "not"))))) (eC (.int 1)) (eC (.int 2))) [.val (.ref 0), .val (.int d), .val l, .val (.str k), .no] h = .ok (rangeD 0 c) h := by
    cases hk : (k == cps "not") with
    | true =>
      rw [hk] at hc
      simp at hc
      subst hc
      exact range_it ((ifT (kindR rfl hk)).trans rfl) (small_ok (by decide) (by decide))
    | false =>
      rw [hk] at hc
      simp at hc
      subst hc
      exact range_it ((ifF (kindR rfl hk)).trans rfl) (small_ok (by decide) (by decide))
  have c2 : c ≤ 2 := by rw [hc]; split <;> decide
  obtain ⟨ys, h', e, l1, p, r'⟩ := eComp_draw (g := gVar 4) (e := eN m [eVar 0, e2 pSub (eVar 1) (eC (.int 1))]) (vs := [4]) (P := P) hi (range_len (by omega)) r (fun x hx => by
    obtain ⟨i, rfl, _, _⟩ := rangeD_mem hx
    refine ⟨_, rfl, fun h r => ?_⟩
    obtain ⟨y, h', e, p, r'⟩ := q h r
    exact ⟨y, h', en_ok (ev_cons rfl (ev_cons rfl ev_nil)) e, p, r'⟩)
  rw [rangeD_len] at l1
  refine ⟨ys, h', ?_, by omega, p, r'⟩
  refine (e2_ok (u := .tup [.str k]) (v := .tup ys) (h2 := h') rfl ((e1_ok e).trans rfl)).trans ?_
  have l2 : [D.str k].length + ys.length ≤ 16000000 := by simp; omega
  simp only [pAdd]
  rw [if_pos l2]
  rfl
theorem gen_clue : ∀ (n : Nat) (d : Int) (h : List O), Rw h → 1 ≤ d → d ≤ n → ∃ x h', m__law_clue n [.ref 0, .int d] h = .ok x h' ∧ Good d.toNat x ∧ Rw h'
  | 0, d, h, r, h1, h2 => by omega
  | n + 1, d, h, r, h1, h2 => by
    have hL : ∃ L : List D, (e2 pAdd (eVar 2) (eIf (tOf (e2 pGt (eVar 1) (eC (.int 1)))) (eLst [eC (.str (cps "not")), eC (.str (cps "both")), eC (.str (cps "either"))]) (eLst []))) [.val (.ref 0), .val (.int d), .val (.lst K8), .no, .no] h = .ok (.lst L) h ∧ L ≠ [] ∧ L.length < 1000000 ∧ ∀ x ∈ L, x ∈ K8 ∨ (1 < d ∧ x ∈ K3) := by
      by_cases hd : 1 < d
      · refine ⟨K8 ++ K3, (e2_ok (u := .lst K8) (v := .lst K3) (h1 := h) (h2 := h) rfl ((ifT ?_).trans rfl)).trans rfl, by simp, by simp, fun x hx => (List.mem_append.mp hx).imp id fun z => ⟨hd, z⟩⟩
        simp [tOf, e2, bindM, eVar, eC, retM, nx_ok, pGt, pCmp, pTruth, truth, ofOpt, hd]
      · refine ⟨K8 ++ [], (e2_ok (u := .lst K8) (v := .lst []) (h1 := h) (h2 := h) rfl ((ifF ?_).trans rfl)).trans rfl, by simp, by simp, fun x hx => .inl (by simpa using hx)⟩
        simp [tOf, e2, bindM, eVar, eC, retM, nx_ok, pGt, pCmp, pTruth, truth, ofOpt, hd]
    obtain ⟨L, eL, L0, L1, L2⟩ := hL
    obtain ⟨x, h1', ex, hx, r1⟩ := pick_in r L0 L1 (σ := [.val (.ref 0), .val (.int d), .val (.lst K8), .no, .no]) rfl eL
    have dd : ((d.toNat : Nat) : Int) = d := by omega
    rcases L2 x hx with hx | ⟨hd, hx⟩
    · simp only [List.mem_cons, List.not_mem_nil, or_false] at hx
      rcases hx with rfl | rfl | rfl | rfl | rfl | rfl | rfl | rfl
      · obtain ⟨s, h2', e, q, r2⟩ := tail_text r1 (.str (cps "like")) (.lst K8) d (a := 2) (b := 4) (sg := cps "ab?c?") (by decide) (by decide) (by decide) (by decide) (by decide)
        exact ⟨_, h2', runR rfl ((stepS (d := .lst K8) rfl).trans ((stepS ex).trans ((stepF (kindI [cps "not", cps "both", cps "either"] (a := cps "like") rfl (by decide))).trans (stepT (kindR (a := cps "like") rfl (by decide)) (retR e))))), ⟨.like s, rfl, ⟨by omega, by omega, fun c hc => (by decide : ∀ c ∈ cps "ab?c?", c ∈ az ++ [63]) c (q.2.2 c hc)⟩, by simp [dep]; omega⟩, r2⟩
      · obtain ⟨s, h2', e, q, r2⟩ := tail_bgh r1 (.str (cps "begins")) (.lst K8) d
        exact ⟨_, h2', runR rfl ((stepS (d := .lst K8) rfl).trans ((stepS ex).trans ((stepF (kindI [cps "not", cps "both", cps "either"] (a := cps "begins") rfl (by decide))).trans ((stepF (kindR (a := cps "begins") rfl (by decide))).trans (stepT (kindI [cps "begins", cps "ends", cps "holds"] (a := cps "begins") rfl (by decide)) (retR e)))))), ⟨.begins s, rfl, q, by simp [dep]; omega⟩, r2⟩
      · obtain ⟨s, h2', e, q, r2⟩ := tail_bgh r1 (.str (cps "ends")) (.lst K8) d
        exact ⟨_, h2', runR rfl ((stepS (d := .lst K8) rfl).trans ((stepS ex).trans ((stepF (kindI [cps "not", cps "both", cps "either"] (a := cps "ends") rfl (by decide))).trans ((stepF (kindR (a := cps "ends") rfl (by decide))).trans (stepT (kindI [cps "begins", cps "ends", cps "holds"] (a := cps "ends") rfl (by decide)) (retR e)))))), ⟨.ends s, rfl, q, by simp [dep]; omega⟩, r2⟩
      · obtain ⟨s, h2', e, q, r2⟩ := tail_bgh r1 (.str (cps "holds")) (.lst K8) d
        exact ⟨_, h2', runR rfl ((stepS (d := .lst K8) rfl).trans ((stepS ex).trans ((stepF (kindI [cps "not", cps "both", cps "either"] (a := cps "holds") rfl (by decide))).trans ((stepF (kindR (a := cps "holds") rfl (by decide))).trans (stepT (kindI [cps "begins", cps "ends", cps "holds"] (a := cps "holds") rfl (by decide)) (retR e)))))), ⟨.holds s, rfl, q, by simp [dep]; omega⟩, r2⟩
      · obtain ⟨c, m, h2', e, q, r2⟩ := tail_count r1 (.str (cps "count")) (.lst K8) d
        exact ⟨_, h2', runR rfl ((stepS (d := .lst K8) rfl).trans ((stepS ex).trans ((stepF (kindI [cps "not", cps "both", cps "either"] (a := cps "count") rfl (by decide))).trans ((stepF (kindR (a := cps "count") rfl (by decide))).trans ((stepF (kindI [cps "begins", cps "ends", cps "holds"] (a := cps "count") rfl (by decide))).trans (stepT (kindR (a := cps "count") rfl (by decide)) (retR e))))))), ⟨.count c m, rfl, q, by simp [dep]; omega⟩, r2⟩
      · obtain ⟨s, t, h2', e, q, r2⟩ := tail_from r1 (.str (cps "from")) (.lst K8) d
        exact ⟨_, h2', runR rfl ((stepS (d := .lst K8) rfl).trans ((stepS ex).trans ((stepF (kindI [cps "not", cps "both", cps "either"] (a := cps "from") rfl (by decide))).trans ((stepF (kindR (a := cps "from") rfl (by decide))).trans ((stepF (kindI [cps "begins", cps "ends", cps "holds"] (a := cps "from") rfl (by decide))).trans ((stepF (kindR (a := cps "from") rfl (by decide))).trans (stepT (kindR (a := cps "from") rfl (by decide)) (retR e)))))))), ⟨.frm s t, rfl, q, by simp [dep]; omega⟩, r2⟩
      · obtain ⟨s, h2', e, q, r2⟩ := tail_text r1 (.str (cps "back")) (.lst K8) d (a := 2) (b := 4) (sg := cps "abc") (by decide) (by decide) (by decide) (by decide) (by decide)
        exact ⟨_, h2', runR rfl ((stepS (d := .lst K8) rfl).trans ((stepS ex).trans ((stepF (kindI [cps "not", cps "both", cps "either"] (a := cps "back") rfl (by decide))).trans ((stepF (kindR (a := cps "back") rfl (by decide))).trans ((stepF (kindI [cps "begins", cps "ends", cps "holds"] (a := cps "back") rfl (by decide))).trans ((stepF (kindR (a := cps "back") rfl (by decide))).trans ((stepF (kindR (a := cps "back") rfl (by decide))).trans (retR ((ifT (kindR (a := cps "back") rfl (by decide))).trans e))))))))), ⟨.back s, rfl, ⟨by omega, by omega, fun c hc => (by decide : ∀ c ∈ cps "abc", c ∈ az) c (q.2.2 c hc)⟩, by simp [dep]; omega⟩, r2⟩
      · exact ⟨_, h1', runR rfl ((stepS (d := .lst K8) rfl).trans ((stepS ex).trans ((stepF (kindI [cps "not", cps "both", cps "either"] (a := cps "turned") rfl (by decide))).trans ((stepF (kindR (a := cps "turned") rfl (by decide))).trans ((stepF (kindI [cps "begins", cps "ends", cps "holds"] (a := cps "turned") rfl (by decide))).trans ((stepF (kindR (a := cps "turned") rfl (by decide))).trans ((stepF (kindR (a := cps "turned") rfl (by decide))).trans (retR ((ifF (kindR (a := cps "turned") rfl (by decide))).trans rfl))))))))), ⟨.turned, rfl, True.intro, by simp [dep]; omega⟩, r1⟩
    · have ih := fun h r => gen_clue n (d - 1) h r (by omega) (by omega)
      simp only [List.mem_cons, List.not_mem_nil, or_false] at hx
      rcases hx with rfl | rfl | rfl
      · obtain ⟨ys, h2', e, l, q, r2⟩ := subs (P := Good (d - 1).toNat) r1 (cps "not") (.lst K8) d 1 rfl ih
        match ys, l with
        | [y], _ =>
          obtain ⟨c, rfl, okc, hdc⟩ := q y List.mem_cons_self
          exact ⟨_, h2', runR rfl ((stepS (d := .lst K8) rfl).trans ((stepS ex).trans (stepT (kindI [cps "not", cps "both", cps "either"] (a := cps "not") rfl (by decide)) (retR e)))), ⟨.neg c, rfl, okc, by simp only [dep]; omega⟩, r2⟩
      · obtain ⟨ys, h2', e, l, q, r2⟩ := subs (P := Good (d - 1).toNat) r1 (cps "both") (.lst K8) d 2 rfl ih
        match ys, l with
        | [y, z], _ =>
          obtain ⟨c, rfl, okc, hdc⟩ := q y List.mem_cons_self
          obtain ⟨c2, rfl, okc2, hdc2⟩ := q z (by simp)
          exact ⟨_, h2', runR rfl ((stepS (d := .lst K8) rfl).trans ((stepS ex).trans (stepT (kindI [cps "not", cps "both", cps "either"] (a := cps "both") rfl (by decide)) (retR e)))), ⟨.both c c2, rfl, ⟨okc, okc2⟩, by simp only [dep]; omega⟩, r2⟩
      · obtain ⟨ys, h2', e, l, q, r2⟩ := subs (P := Good (d - 1).toNat) r1 (cps "either") (.lst K8) d 2 rfl ih
        match ys, l with
        | [y, z], _ =>
          obtain ⟨c, rfl, okc, hdc⟩ := q y List.mem_cons_self
          obtain ⟨c2, rfl, okc2, hdc2⟩ := q z (by simp)
          exact ⟨_, h2', runR rfl ((stepS (d := .lst K8) rfl).trans ((stepS ex).trans (stepT (kindI [cps "not", cps "both", cps "either"] (a := cps "either") rfl (by decide)) (retR e)))), ⟨.either c c2, rfl, ⟨okc, okc2⟩, by simp only [dep]; omega⟩, r2⟩
end Cf
set_option Elab.async false
set_option linter.all false
set_option maxRecDepth 100000
set_option maxHeartbeats 4000000
/-! KA: the words of a clue, its text -/
namespace Cf
def wc : Cl → List (List Nat)
  | .like p => [cps "like", p]
  | .begins t => [cps "begins", t]
  | .ends t => [cps "ends", t]
  | .holds t => [cps "holds", t]
  | .count c n => [cps "count", [c], cps (toString n)]
  | .frm a b => [cps "from", a, b]
  | .back w => [cps "back", w]
  | .turned => [cps "turned"]
  | .neg c => cps "not" :: wc c
  | .both c d => cps "both" :: (wc c ++ wc d)
  | .either c d => cps "either" :: (wc c ++ wc d)
abbrev sp : List Nat := [32]
def tx (c : Cl) : List Nat := joinL sp (wc c)
abbrev stL (ws : List (List Nat)) : List D := ws.map D.str
theorem strsOf_map : ∀ ws : List (List Nat), strsOf (stL ws) = some ws
  | [] => rfl
  | w :: ws => by
    show strsOf (.str w :: stL ws) = _
    rw [strsOf, strsOf_map ws]; rfl
theorem toD_tup (c : Cl) : ∃ ds, toD c = .tup ds := by cases c <;> exact ⟨_, rfl⟩
theorem wc_ne (c : Cl) : wc c ≠ [] := by cases c <;> simp [wc]
theorem five {n : Int} (h0 : 0 ≤ n) (h4 : n ≤ 4) : n = 0 ∨ n = 1 ∨ n = 2 ∨ n = 3 ∨ n = 4 := by omega
theorem cw1 {m : List D → M D} {h : List O} {k : D} {ds ws : List D} (e : m [.tup ds] h = .ok (.lst ws) h) (hl : ws.length ≤ 1000000) : run 3 1 (b_clue_words m) [.tup [k, .tup ds]] h = .ok (.lst (k :: ws)) h := by
  have l1 : 1 + ws.length ≤ LIM := by show _ ≤ 16000000; omega
  simp [run, b_clue_words, sSeq, sOwn, evs, e2, eVar, eC, bindM, retM, nx_ok, stmt_ok, pIdx, getAt, ixOf, ofOpt, sFor, iOf, eSlice, optInt, pSlice, cut, clip, itemsOf, forGo, gVar, sExt, ownAt, eIf, tOf, e1, pIsi, askable, isTy, pTruth, truth, eN, e, l1, sFrz, sRet]
theorem cw2 {m : List D → M D} {h : List O} {k : D} {ds es ws vs : List D} (e : m [.tup ds] h = .ok (.lst ws) h) (e' : m [.tup es] h = .ok (.lst vs) h) (hl : ws.length ≤ 1000000) (hl' : vs.length ≤ 1000000) :
    run 3 1 (b_clue_words m) [.tup [k, .tup ds, .tup es]] h = .ok (.lst (k :: (ws ++ vs))) h := by
  have l1 : 1 + ws.length ≤ LIM := by show _ ≤ 16000000; omega
  have l2 : (k :: ws).length + vs.length ≤ LIM := by show _ ≤ 16000000; rw [List.length_cons]; omega
  have l3 : ws.length + 1 + vs.length ≤ LIM := by show _ ≤ 16000000; omega
  simp [run, b_clue_words, sSeq, sOwn, evs, e2, eVar, eC, bindM, retM, nx_ok, stmt_ok, pIdx, getAt, ixOf, ofOpt, sFor, iOf, eSlice, optInt, pSlice, cut, clip, itemsOf, forGo, gVar, sExt, ownAt, eIf, tOf, e1, pIsi, askable, isTy, pTruth, truth, eN, e, e', l1, l2, l3, sFrz, sRet]
theorem wc_len : ∀ c : Cl, (wc c).length ≤ 4 ^ dep c
  | .like _ | .begins _ | .ends _ | .holds _ | .count _ _ | .frm _ _ | .back _ | .turned => by simp [wc, dep]
  | .neg c => by
    have := wc_len c
    have p : 0 < 4 ^ dep c := Nat.pow_pos (by decide)
    simp only [wc, dep, List.length_cons, Nat.pow_succ]; omega
  | .both c d => by
    have a := wc_len c
    have b := wc_len d
    have p : 4 ^ dep c ≤ 4 ^ max (dep c) (dep d) := Nat.pow_le_pow_right (by decide) (Nat.le_max_left _ _)
    have q : 4 ^ dep d ≤ 4 ^ max (dep c) (dep d) := Nat.pow_le_pow_right (by decide) (Nat.le_max_right _ _)
    have r : 0 < 4 ^ max (dep c) (dep d) := Nat.pow_pos (by decide)
    simp only [wc, dep, List.length_cons, List.length_append, Nat.pow_succ]; omega
  | .either c d => by
    have a := wc_len c
    have b := wc_len d
    have p : 4 ^ dep c ≤ 4 ^ max (dep c) (dep d) := Nat.pow_le_pow_right (by decide) (Nat.le_max_left _ _)
    have q : 4 ^ dep d ≤ 4 ^ max (dep c) (dep d) := Nat.pow_le_pow_right (by decide) (Nat.le_max_right _ _)
    have r : 0 < 4 ^ max (dep c) (dep d) := Nat.pow_pos (by decide)
    simp only [wc, dep, List.length_cons, List.length_append, Nat.pow_succ]; omega
theorem wc_small {c : Cl} (h : dep c ≤ 8) : (wc c).length ≤ 65536 := Nat.le_trans (wc_len c) (Nat.pow_le_pow_right (by decide : 0 < 4) h)
theorem clue_words_ok : ∀ (c : Cl) (n : Nat) (h : List O), okC c → dep c ≤ n → dep c ≤ 8 → m_clue_words n [toD c] h = .ok (.lst (stL (wc c))) h
  | c, 0, h, _, hn, _ => by cases c <;> simp [dep] at hn
  | .like p, n + 1, h, _, _, _ => rfl
  | .begins p, n + 1, h, _, _, _ => rfl
  | .ends p, n + 1, h, _, _, _ => rfl
  | .holds p, n + 1, h, _, _, _ => rfl
  | .count c m, n + 1, h, ok, _, _ => by
    rcases five ok.2.1 ok.2.2 with rfl | rfl | rfl | rfl | rfl <;> rfl
  | .frm a b, n + 1, h, _, _, _ => rfl
  | .back p, n + 1, h, _, _, _ => rfl
  | .turned, n + 1, h, _, _, _ => rfl
  | .neg c, n + 1, h, ok, hn, h8 => by
    simp only [dep] at hn h8
    have e := clue_words_ok c n h ok (by omega) (by omega)
    obtain ⟨ds, ed⟩ := toD_tup c
    rw [ed] at e
    show run 3 1 (b_clue_words (m_clue_words n)) [.tup [k_NOT, toD c]] h = _
    rw [ed]
    exact cw1 e (by rw [List.length_map]; have := wc_small (c := c) (by omega); omega)
  | .both c d, n + 1, h, ok, hn, h8 => by
    simp only [dep] at hn h8
    have e := clue_words_ok c n h ok.1 (by omega) (by omega)
    have e' := clue_words_ok d n h ok.2 (by omega) (by omega)
    obtain ⟨ds, ed⟩ := toD_tup c
    obtain ⟨es, ee⟩ := toD_tup d
    rw [ed] at e
    rw [ee] at e'
    show run 3 1 (b_clue_words (m_clue_words n)) [.tup [k_BOTH, toD c, toD d]] h = _
    rw [ed, ee]
    refine (cw2 e e' (by rw [List.length_map]; have := wc_small (c := c) (by omega); omega) (by rw [List.length_map]; have := wc_small (c := d) (by omega); omega)).trans ?_
    rw [← List.map_append]; rfl
  | .either c d, n + 1, h, ok, hn, h8 => by
    simp only [dep] at hn h8
    have e := clue_words_ok c n h ok.1 (by omega) (by omega)
    have e' := clue_words_ok d n h ok.2 (by omega) (by omega)
    obtain ⟨ds, ed⟩ := toD_tup c
    obtain ⟨es, ee⟩ := toD_tup d
    rw [ed] at e
    rw [ee] at e'
    show run 3 1 (b_clue_words (m_clue_words n)) [.tup [k_EITHER, toD c, toD d]] h = _
    rw [ed, ee]
    refine (cw2 e e' (by rw [List.length_map]; have := wc_small (c := c) (by omega); omega) (by rw [List.length_map]; have := wc_small (c := d) (by omega); omega)).trans ?_
    rw [← List.map_append]; rfl
/-! ### texts -/
theorem joinL_cons (s a : List Nat) {vs : List (List Nat)} (h : vs ≠ []) : joinL s (a :: vs) = a ++ s ++ joinL s vs := by
  cases vs with
  | nil => exact absurd rfl h
  | cons v vs => rfl
theorem joinL_app (s : List Nat) {vs : List (List Nat)} (h : vs ≠ []) : ∀ {ws : List (List Nat)}, ws ≠ [] → joinL s (ws ++ vs) = joinL s ws ++ s ++ joinL s vs
  | [], hw => absurd rfl hw
  | [w], _ => joinL_cons s w h
  | w :: w2 :: ws, _ => by
    have ih := joinL_app s h (ws := w2 :: ws) (by simp)
    rw [List.cons_append, joinL_cons s w (by simp), joinL_cons s w (by simp), ih]
    simp [List.append_assoc]
theorem nums_len {n : Int} (h0 : 0 ≤ n) (h4 : n ≤ 4) : (cps (toString n)).length = 1 := by
  rcases five h0 h4 with rfl | rfl | rfl | rfl | rfl <;> rfl
theorem tx_neg (c : Cl) : tx (.neg c) = joinL sp [cps "not", tx c] := by
  unfold tx
  rw [wc, joinL_cons _ _ (wc_ne c)]
  rfl
theorem tx_both (c d : Cl) : tx (.both c d) = joinL sp [cps "both", tx c, tx d] := by
  unfold tx
  rw [wc, joinL_cons _ _ (by have := wc_ne c; simp [this]), joinL_app _ (wc_ne d) (wc_ne c)]
  simp [joinL]
theorem tx_either (c d : Cl) : tx (.either c d) = joinL sp [cps "either", tx c, tx d] := by
  unfold tx
  rw [wc, joinL_cons _ _ (by have := wc_ne c; simp [this]), joinL_app _ (wc_ne d) (wc_ne c)]
  simp [joinL]
theorem tx_len : ∀ c : Cl, okC c → (tx c).length ≤ 20 * 4 ^ dep c
  | .like p, ok => by have := ok.2.1; simp [tx, wc, joinL, dep, c_like]; omega
  | .begins p, ok => by have := ok.2.1; simp [tx, wc, joinL, dep, c_begins]; omega
  | .ends p, ok => by have := ok.2.1; simp [tx, wc, joinL, dep, c_ends]; omega
  | .holds p, ok => by have := ok.2.1; simp [tx, wc, joinL, dep, c_holds]; omega
  | .count c n, ok => by
    have e := nums_len ok.2.1 ok.2.2
    simp [tx, wc, joinL, dep, c_count]
    have e : (cps n.repr).length = 1 := e
    omega
  | .frm a b, ok => by have := ok.1.2.1; have := ok.2.2.1; simp [tx, wc, joinL, dep, c_from]; omega
  | .back p, ok => by have := ok.2.1; simp [tx, wc, joinL, dep, c_back]; omega
  | .turned, ok => by simp [tx, wc, joinL, dep, c_turned]
  | .neg c, ok => by
    have := tx_len c ok
    have p : 0 < 4 ^ dep c := Nat.pow_pos (by decide)
    rw [tx_neg]
    simp [joinL, dep, c_not, Nat.pow_succ]; omega
  | .both c d, ok => by
    have a := tx_len c ok.1
    have b := tx_len d ok.2
    have p : 4 ^ dep c ≤ 4 ^ max (dep c) (dep d) := Nat.pow_le_pow_right (by decide) (Nat.le_max_left _ _)
    have q : 4 ^ dep d ≤ 4 ^ max (dep c) (dep d) := Nat.pow_le_pow_right (by decide) (Nat.le_max_right _ _)
    have r : 0 < 4 ^ max (dep c) (dep d) := Nat.pow_pos (by decide)
    rw [tx_both]
    simp [joinL, dep, c_both, Nat.pow_succ]; omega
  | .either c d, ok => by
    have a := tx_len c ok.1
    have b := tx_len d ok.2
    have p : 4 ^ dep c ≤ 4 ^ max (dep c) (dep d) := Nat.pow_le_pow_right (by decide) (Nat.le_max_left _ _)
    have q : 4 ^ dep d ≤ 4 ^ max (dep c) (dep d) := Nat.pow_le_pow_right (by decide) (Nat.le_max_right _ _)
    have r : 0 < 4 ^ max (dep c) (dep d) := Nat.pow_pos (by decide)
    rw [tx_either]
    simp [joinL, dep, c_either, Nat.pow_succ]; omega
theorem tx_small {c : Cl} (ok : okC c) (h : dep c ≤ 8) : (tx c).length ≤ 1310720 := Nat.le_trans (tx_len c ok) (Nat.mul_le_mul_left 20 (Nat.pow_le_pow_right (by decide : 0 < 4) h))
/-- how long a joined text is -/
theorem join_sum (s : List Nat) : ∀ (w : List Nat) (ws : List (List Nat)), (joinL s (w :: ws)).length + s.length = ((w :: ws).map (·.length)).sum + (w :: ws).length * s.length
  | w, [] => by simp [joinL]
  | w, v :: ws => by
    have ih := join_sum s v ws
    rw [joinL_cons _ _ (by simp)]
    simp only [List.length_append, List.map_cons, List.sum_cons, List.length_cons, Nat.add_mul] at ih ⊢
    omega
theorem pJoin_ok {ws : List (List Nat)} (hne : ws ≠ []) (hl : (joinL sp ws).length ≤ 10000000) (h : List O) : pJoin (.str (cps " ")) (.lst (stL ws)) h = .ok (.str (joinL sp ws)) h := by
  have l : (ws.map (·.length)).sum + ws.length * 1 ≤ 16000000 := by
    cases ws with
    | nil => exact absurd rfl hne
    | cons w ws =>
      have := join_sum sp w ws
      simp only [List.length_cons, List.length_nil] at this
      simp only [List.length_cons]
      omega
  have c32 : cps " " = sp := by decide
  rw [c32]
  simp only [pJoin, seqOf, Option.bind_some, strsOf_map]
  rw [if_pos (show (ws.map (·.length)).sum + ws.length * sp.length ≤ LIM from l)]
  rfl
end Cf
set_option Elab.async false
set_option linter.all false
set_option maxRecDepth 100000
set_option maxHeartbeats 4000000
/-! KB: texts written; texts read -/
namespace Cf
theorem lt0 {n : Nat} {x : D} {ws : List (List Nat)} {h : List O} (hne : ws ≠ []) (hl : (joinL sp ws).length ≤ 10000000)
    (e : e2 pAdd (eLst [e2 pIdx (eVar 0) (eC (.int 0))]) (eComp (iOf (eSlice (eVar 0) (some (eC (.int 1))) none)) (gVar 1) (tYes) (eIf (tOf (e1 (pIsi [.tuple]) (eVar 1))) (eN (m__law_clue_text n) [eVar 1]) (e1 pStr (eVar 1))) [1]) [.val x, .no] h = .ok (.lst (stL ws)) h) :
    m__law_clue_text (n + 1) [x] h = .ok (.str (joinL sp ws)) h :=
  runR rfl (retR ((s2_ok (s := cps " ") (h1 := h) rfl e).trans (pJoin_ok hne hl h)))
theorem lt1 {m : List D → M D} {k : D} {ds : List D} {t : List Nat} {h : List O} (e : m [.tup ds] h = .ok (.str t) h) :
    e2 pAdd (eLst [e2 pIdx (eVar 0) (eC (.int 0))]) (eComp (iOf (eSlice (eVar 0) (some (eC (.int 1))) none)) (gVar 1) (tYes) (eIf (tOf (e1 (pIsi [.tuple]) (eVar 1))) (eN m [eVar 1]) (e1 pStr (eVar 1))) [1]) [.val (.tup [k, .tup ds]), .no] h = .ok (.lst [k, .str t]) h := by
  simp [e2, eLst, eN, evs, eVar, eC, bindM, retM, nx_ok, pIdx, getAt, ixOf, ofOpt, mkLst, eComp, comp, iOf, eSlice, optInt, pSlice, cut, clip, itemsOf, noer, compGo, wipe, gVar, tYes, eIf, tOf, e1, pIsi, askable, isTy, pTruth, truth, e, LIM, pAdd]
theorem lt2 {m : List D → M D} {k : D} {ds es : List D} {t u : List Nat} {h : List O} (e : m [.tup ds] h = .ok (.str t) h) (e' : m [.tup es] h = .ok (.str u) h) :
    e2 pAdd (eLst [e2 pIdx (eVar 0) (eC (.int 0))]) (eComp (iOf (eSlice (eVar 0) (some (eC (.int 1))) none)) (gVar 1) (tYes) (eIf (tOf (e1 (pIsi [.tuple]) (eVar 1))) (eN m [eVar 1]) (e1 pStr (eVar 1))) [1]) [.val (.tup [k, .tup ds, .tup es]), .no] h = .ok (.lst [k, .str t, .str u]) h := by
  simp [e2, eLst, eN, evs, eVar, eC, bindM, retM, nx_ok, pIdx, getAt, ixOf, ofOpt, mkLst, eComp, comp, iOf, eSlice, optInt, pSlice, cut, clip, itemsOf, noer, compGo, wipe, gVar, tYes, eIf, tOf, e1, pIsi, askable, isTy, pTruth, truth, e, e', LIM, pAdd]
theorem law_text_ok : ∀ (c : Cl) (n : Nat) (h : List O), okC c → dep c ≤ n → dep c ≤ 8 → m__law_clue_text n [toD c] h = .ok (.str (tx c)) h
  | c, 0, h, _, hn, _ => by cases c <;> simp [dep] at hn
  | .like p, n + 1, h, ok, _, h8 => lt0 (ws := wc (.like p)) (wc_ne _) (Nat.le_trans (tx_small (c := .like p) ok h8) (by decide)) rfl
  | .begins p, n + 1, h, ok, _, h8 => lt0 (ws := wc (.begins p)) (wc_ne _) (Nat.le_trans (tx_small (c := .begins p) ok h8) (by decide)) rfl
  | .ends p, n + 1, h, ok, _, h8 => lt0 (ws := wc (.ends p)) (wc_ne _) (Nat.le_trans (tx_small (c := .ends p) ok h8) (by decide)) rfl
  | .holds p, n + 1, h, ok, _, h8 => lt0 (ws := wc (.holds p)) (wc_ne _) (Nat.le_trans (tx_small (c := .holds p) ok h8) (by decide)) rfl
  | .count c m, n + 1, h, ok, _, h8 => lt0 (ws := wc (.count c m)) (wc_ne _) (Nat.le_trans (tx_small (c := .count c m) ok h8) (by decide)) (by
    rcases five ok.2.1 ok.2.2 with rfl | rfl | rfl | rfl | rfl <;> rfl)
  | .frm a b, n + 1, h, ok, _, h8 => lt0 (ws := wc (.frm a b)) (wc_ne _) (Nat.le_trans (tx_small (c := .frm a b) ok h8) (by decide)) rfl
  | .back p, n + 1, h, ok, _, h8 => lt0 (ws := wc (.back p)) (wc_ne _) (Nat.le_trans (tx_small (c := .back p) ok h8) (by decide)) rfl
  | .turned, n + 1, h, ok, _, h8 => lt0 (ws := wc .turned) (wc_ne _) (Nat.le_trans (tx_small (c := .turned) ok h8) (by decide)) rfl
  | .neg c, n + 1, h, ok, hn, h8 => by
    have l := Nat.le_trans (tx_small (c := .neg c) ok h8) (by decide : 1310720 ≤ 10000000)
    rw [tx_neg] at l ⊢
    simp only [dep] at hn h8
    have e := law_text_ok c n h ok (by omega) (by omega)
    obtain ⟨ds, ed⟩ := toD_tup c
    rw [ed] at e
    refine lt0 (by simp) l ?_
    show _ = R.ok (D.lst [k_NOT, .str (tx c)]) h
    rw [show toD (.neg c) = .tup [k_NOT, .tup ds] from by rw [toD, ed]]
    exact lt1 e
  | .both c d, n + 1, h, ok, hn, h8 => by
    have l := Nat.le_trans (tx_small (c := .both c d) ok h8) (by decide : 1310720 ≤ 10000000)
    rw [tx_both] at l ⊢
    simp only [dep] at hn h8
    have e := law_text_ok c n h ok.1 (by omega) (by omega)
    have e' := law_text_ok d n h ok.2 (by omega) (by omega)
    obtain ⟨ds, ed⟩ := toD_tup c
    obtain ⟨es, ee⟩ := toD_tup d
    rw [ed] at e
    rw [ee] at e'
    refine lt0 (by simp) l ?_
    show _ = R.ok (D.lst [k_BOTH, .str (tx c), .str (tx d)]) h
    rw [show toD (.both c d) = .tup [k_BOTH, .tup ds, .tup es] from by rw [toD, ed, ee]]
    exact lt2 e e'
  | .either c d, n + 1, h, ok, hn, h8 => by
    have l := Nat.le_trans (tx_small (c := .either c d) ok h8) (by decide : 1310720 ≤ 10000000)
    rw [tx_either] at l ⊢
    simp only [dep] at hn h8
    have e := law_text_ok c n h ok.1 (by omega) (by omega)
    have e' := law_text_ok d n h ok.2 (by omega) (by omega)
    obtain ⟨ds, ed⟩ := toD_tup c
    obtain ⟨es, ee⟩ := toD_tup d
    rw [ed] at e
    rw [ee] at e'
    refine lt0 (by simp) l ?_
    show _ = R.ok (D.lst [k_EITHER, .str (tx c), .str (tx d)]) h
    rw [show toD (.either c d) = .tup [k_EITHER, .tup ds, .tup es] from by rw [toD, ed, ee]]
    exact lt2 e e'
theorem stepE {e : E} {b : Ms} {σ : S} {h h1 : List O} {d : D} (q : e σ h = .ok d h1) : sSeq (sExpr e) b σ h = b σ h1 := by
  simp [sSeq, sExpr, q, stmt_ok]
theorem is_clue_true {c : Cl} (ok : okC c) (hd : dep c ≤ 4) (h : List O) : m_is_clue [toD c] h = .ok (.bl true) h := runR rfl (retR (is_clue_ok c 8 4 h ok (by omega) (by omega)))
theorem clue_text_ok {c : Cl} (ok : okC c) (hd : dep c ≤ 4) (h : List O) : m_clue_text [toD c] h = .ok (.str (tx c)) h :=
  runR rfl ((stepE (en_ok (ev_cons (en_ok (ev_cons rfl ev_nil) (is_clue_true ok hd h)) (ev_cons rfl ev_nil)) (check_ok (cps "clue") h))).trans
    (retR ((s2_ok (s := cps " ") (h1 := h) rfl (en_ok (ev_cons rfl ev_nil) (clue_words_ok c 8 h ok (by omega) (by omega)))).trans (pJoin_ok (wc_ne c) (Nat.le_trans (tx_small ok (by omega)) (by decide)) h))))
/-! ### reading -/
theorem cutT {α : Type} (w : List α) (n : Nat) : cut w none (some (n : Int)) = w.take n := by
  have h1 : ¬ ((n : Int) < 0) := by omega
  simp [cut, clip, h1]
theorem cutD {α : Type} (w : List α) {n : Nat} (h : n ≤ w.length) : cut w (some (n : Int)) none = w.drop n := by
  have h1 : ¬ ((n : Int) < 0) := by omega
  have h2 : min n w.length = n := by omega
  simp only [cut, clip, h1, if_false, Int.toNat_natCast, h2]
  rw [List.take_of_length_le]
  rw [List.length_drop]
  omega
theorem cutD1 {α : Type} (x : α) (w : List α) : cut (x :: w) (some 1) none = w := cutD (x :: w) (n := 1) (by simp)
theorem rw1 {k : List Nat} {h : List O} (hk : t_SIZES.lookup k = some 2) (hc : (k == cps "count") = false) (a : D) (r : List D) : m_read_word [.str k, .lst (a :: r)] h = .ok (.tup [.tup [.str k, a], .lst r]) h := by
  have c1 : cut (a :: r) none (some (1 : Int)) = [a] := cutT _ 1
  have c2 := cutD1 a r
  have n1 : (1 : Int) ≤ (r.length : Int) + 1 := by omega
  refine runR rfl ((stepS (h1 := h) (d := .int 1) ?_).trans ((stepF (h1 := h) ?_).trans ((stepS (h1 := h) (d := .tup [.str k, a]) ?_).trans ((stepF (h1 := h) (kindR rfl hc)).trans (retR ?_)))))
  · simp [e2, e1, eVar, eC, bindM, pGetTab, hk, ofOpt, retM, nx_ok, pSub]
  · simp [tOf, e2, e1, eVar, eC, bindM, retM, nx_ok, pLen, pLt, pCmp, pTruth, truth, ofOpt, n1]
  · simp [e2, e1, eTup, eN, evs, mkTup, eVar, bindM, retM, nx_ok, eSlice, optInt, pSlice, c1, pTuple, pAdd, LIM]
  · simp [eTup, eN, evs, mkTup, eVar, bindM, retM, nx_ok, eSlice, optInt, pSlice, c2]
theorem rw2 {h : List O} (a b : D) (r : List D) : m_read_word [.str (cps "from"), .lst (a :: b :: r)] h = .ok (.tup [.tup [.str (cps "from"), a, b], .lst r]) h := by
  have c1 : cut (a :: b :: r) none (some (2 : Int)) = [a, b] := cutT _ 2
  have c2 : cut (a :: b :: r) (some (2 : Int)) none = r := cutD (a :: b :: r) (n := 2) (by simp)
  refine runR rfl ((stepS (h1 := h) (d := .int 2) rfl).trans ((stepF (h1 := h) ?_).trans ((stepS (h1 := h) (d := .tup [.str (cps "from"), a, b]) ?_).trans ((stepF (kindR rfl (by decide))).trans (retR ?_)))))
  · have n1 : (2 : Int) ≤ (r.length : Int) + 1 + 1 := by omega
    simp [tOf, e2, e1, eVar, eC, bindM, retM, nx_ok, pLen, pLt, pCmp, pTruth, truth, ofOpt, n1]
  · simp [e2, e1, eTup, eN, evs, mkTup, eVar, bindM, retM, nx_ok, eSlice, optInt, pSlice, c1, pTuple, pAdd, LIM]
  · simp [eTup, eN, evs, mkTup, eVar, bindM, retM, nx_ok, eSlice, optInt, pSlice, c2]
theorem stepIS {t : T} {b : Ms} {x : E} {i : Nat} {σ : S} {h h1 h2 : List O} {d : D} (q : t σ h = .ok true h1) (e : x σ h1 = .ok d h2) : sSeq (sIf t (sSet i x) sPass) b σ h = b (σ.set i (.val d)) h2 := by
  simp [sSeq, sIf, q, stmt_ok, sSet, e]
theorem rw3 {h : List O} {n : Int} {w : List Nat} (hw : m_number_in [.str w, .int 0, .int 4] h = .ok (.int n) h) (a : D) (r : List D) : m_read_word [.str (cps "count"), .lst (a :: .str w :: r)] h = .ok (.tup [.tup [.str (cps "count"), a, .int n], .lst r]) h := by
  have c1 : cut (a :: .str w :: r) none (some (2 : Int)) = [a, .str w] := cutT _ 2
  have c2 : cut (a :: .str w :: r) (some (2 : Int)) none = r := cutD (a :: .str w :: r) (n := 2) (by simp)
  have p2 : e2 pIdx (eVar 1) (eC (.int 0)) [.val (.str (cps "count")), .val (.lst (a :: .str w :: r)), .val (.int 2), .val (.tup [.str (cps "count"), a, .str w])] h = .ok a h := by
    have n1 : (0 : Int) < (r.length : Int) + 1 + 1 := by omega
    simp [e2, eVar, eC, bindM, retM, nx_ok, pIdx, getAt, ixOf, ofOpt, n1]
  have p3 : e2 pIdx (eVar 1) (eC (.int 1)) [.val (.str (cps "count")), .val (.lst (a :: .str w :: r)), .val (.int 2), .val (.tup [.str (cps "count"), a, .str w])] h = .ok (.str w) h := by
    have n1 : (1 : Int) < (r.length : Int) + 1 + 1 := by omega
    simp [e2, eVar, eC, bindM, retM, nx_ok, pIdx, getAt, ixOf, ofOpt, n1]
  refine runR rfl ((stepS (h1 := h) (d := .int 2) rfl).trans ((stepF (h1 := h) ?_).trans ((stepS (h1 := h) (d := .tup [.str (cps "count"), a, .str w]) ?_).trans ((stepIS (h1 := h) (h2 := h) (d := .tup [.str (cps "count"), a, .int n]) (kindR (a := cps "count") rfl (by decide))
    (en_ok (ev_cons rfl (ev_cons p2 (ev_cons (en_ok (ev_cons p3 (ev_cons rfl (ev_cons rfl ev_nil))) hw) ev_nil))) rfl)).trans (retR ?_)))))
  · have n1 : (2 : Int) ≤ (r.length : Int) + 1 + 1 := by omega
    simp [tOf, e2, e1, eVar, eC, bindM, retM, nx_ok, pLen, pLt, pCmp, pTruth, truth, ofOpt, n1]
  · simp [e2, e1, eTup, eN, evs, mkTup, eVar, bindM, retM, nx_ok, eSlice, optInt, pSlice, c1, pTuple, pAdd, LIM]
  · simp [eTup, eN, evs, mkTup, eVar, bindM, retM, nx_ok, eSlice, optInt, pSlice, c2]
theorem num_in {n : Int} (h0 : 0 ≤ n) (h4 : n ≤ 4) (h : List O) : m_number_in [.str (cps (toString n)), .int 0, .int 4] h = .ok (.int n) h := by
  rcases five h0 h4 with rfl | rfl | rfl | rfl | rfl <;> rfl
end Cf
set_option Elab.async false
set_option linter.all false
set_option maxRecDepth 100000
set_option maxHeartbeats 4000000
/-! KC: a clue read from words -/
namespace Cf
section
variable {k : List Nat} {L r : List D} {h : List O} {m : List D → M D} {d : Nat} {n : Int}
theorem rd_test (hk : t_SIZES.lookup k = some n) (d : Nat) (b4 b5 b6 b2 b3 : Sl) : tOr (tOf (e2 pEq (e1 pLen (eVar 0)) (eC (.int 0)))) (tOr (tOf (e1 (pNotInTab t_SIZES) (e2 pIdx (eVar 0) (eC (.int 0))))) (tOf (e2 pEq (eVar 1) (eC (.int 0)))))
    [.val (.lst (.str k :: L)), .val (.int (d : Int)), b2, b3, b4, b5, b6] h = .ok (d == 0) h := by
  have n1 : ¬ ((L.length : Int) + 1 = 0) := by omega
  have n2 : (0 : Int) < (L.length : Int) + 1 := by omega
  have n3 : (((d : Nat) : Int) == 0) = (d == 0) := by
    rw [Bool.eq_iff_iff, beq_iff_eq, beq_iff_eq]; omega
  simp [tOr, tOf, e2, e1, eVar, eC, bindM, retM, nx_ok, pLen, pEq_int, pTruth, truth, ofOpt, n1, pIdx, getAt, ixOf, n2, pNotInTab, hk, n3]
theorem rd_no (hk : t_SIZES.lookup k = some n) : run 7 2 (b_read_clue_from m) [.lst (.str k :: L), .int ((0 : Nat) : Int)] h = .ok .non h :=
  runR rfl (stepT (h1 := h) (rd_test hk 0 _ _ _ _ _) (retR rfl))
theorem stepP {i j : Nat} {a b : E} {c : Ms} {σ : S} {h h1 h2 : List O} {x y : D} (e : a σ h = .ok x h1) (e' : b σ h1 = .ok y h2) : sSeq (sPar i j a b) c σ h = c ((σ.set i (.val x)).set j (.val y)) h2 := by
  simp [sSeq, sPar, evs, bindM, e, e', nx_ok, retM, stmt_ok]
theorem stepO {i : Nat} {as : List E} {c : Ms} {σ : S} {h h1 : List O} {xs : List D} (e : evs as σ h = .ok xs h1) : sSeq (sOwn i as) c σ h = c (σ.set i (.own (.lst xs))) h1 := by
  simp [sSeq, sOwn, e, stmt_ok]
theorem stepApp {i : Nat} {a : E} {c : Ms} {σ : S} {h h1 : List O} {xs : List D} {x : D} (o : ownAt σ i = some xs) (e : a σ h = .ok x h1) (hl : xs.length < 1000000) : sSeq (sApp i a) c σ h = c (σ.set i (.own (.lst (xs ++ [x])))) h1 := by
  have l : xs.length < LIM := Nat.lt_trans hl (by decide)
  simp [sSeq, sApp, o, e, stmt_ok, l]
theorem forG_nil {g : G} {b : Ms} {σ : S} : forGo g b [] σ h = .nx σ h := rfl
theorem forG_cons {g : G} {b : Ms} {x : D} {ds : List D} {σ σ1 σ2 : S} {h2 : List O} (e : g x σ = some σ1) (e' : b σ1 h = .nx σ2 h2) : forGo g b (x :: ds) σ h = forGo g b ds σ2 h2 := by
  simp [forGo, e, e']
theorem forG_rt {g : G} {b : Ms} {x v : D} {ds : List D} {σ σ1 : S} {h2 : List O} (e : g x σ = some σ1) (e' : b σ1 h = .rt v h2) : forGo g b (x :: ds) σ h = .rt v h2 := by
  simp [forGo, e, e']
theorem stepForR {it : I} {g : G} {a b : Ms} {σ : S} {h1 h2 : List O} {ds : List D} {v : D} (hi : it σ h = .ok ds h1) (e : forGo g a ds σ h1 = .rt v h2) : sSeq (sFor it g a) b σ h = .rt v h2 := by
  simp [sSeq, sFor, hi, stmt_ok, e]
theorem isN_false {i : Nat} {xs : List D} {σ : S} (e : σ[i]? = some (.val (.tup xs))) : tOf (e1 pIsN (eVar i)) σ h = .ok false h := by
  simp [tOf, e1, eVar, e, bindM, nx_ok, pIsN, isNon, retM, pTruth, truth, ofOpt]
theorem isN_true {i : Nat} {σ : S} (e : σ[i]? = some (.val .non)) : tOf (e1 pIsN (eVar i)) σ h = .ok true h := by
  simp [tOf, e1, eVar, e, bindM, nx_ok, pIsN, isNon, retM, pTruth, truth, ofOpt]
/-- the suite of the loop -/
abbrev rdB (m : List D → M D) : Ms := sSeq (sSet 6 (eN m [eVar 3, e2 pSub (eVar 1) (eC (.int 1))]))
   (sSeq (sIf (tOf (e1 pIsN (eVar 6)))
    (sRet (eC .non))
    (sPass))
   (sSeq (sApp 4 (e2 pIdx (eVar 6) (eC (.int 0))))
   (sSet 3 (e2 pIdx (eVar 6) (eC (.int 1))))))
theorem sub1 (d : Nat) (b2 b3 b4 b5 b6 : Sl) (w : D) : e2 pSub (eVar 1) (eC (.int 1)) [.val w, .val (.int ((d + 1 : Nat) : Int)), b2, b3, b4, b5, b6] h = .ok (.int (d : Int)) h := by
  have : ((d + 1 : Nat) : Int) - 1 = (d : Int) := by omega
  simp [e2, eVar, eC, bindM, retM, nx_ok, pSub]
theorem rd_turn {w kd x : D} {xs : List D} (hx : xs.length < 1000000) (e : m [.lst L, .int (d : Int)] h = .ok (.tup [x, .lst r]) h) (b6 : Sl) (j : D) :
    rdB m [.val w, .val (.int ((d + 1 : Nat) : Int)), .val kd, .val (.lst L), .own (.lst xs), .val j, b6] h = .nx [.val w, .val (.int ((d + 1 : Nat) : Int)), .val kd, .val (.lst r), .own (.lst (xs ++ [x])), .val j, .val (.tup [x, .lst r])] h := by
  refine (stepS (h1 := h) (d := .tup [x, .lst r]) (en_ok (ev_cons rfl (ev_cons (sub1 d _ _ _ _ _ _) ev_nil)) e)).trans ((stepF (h1 := h) (isN_false rfl)).trans ((stepApp (h1 := h) (x := x) (xs := xs) rfl rfl hx).trans ?_))
  rfl
theorem rd_stop {w kd : D} {xs : List D} (e : m [.lst L, .int (d : Int)] h = .ok .non h) (b6 : Sl) (j : D) :
    rdB m [.val w, .val (.int ((d + 1 : Nat) : Int)), .val kd, .val (.lst L), .own (.lst xs), .val j, b6] h = .rt .non h :=
  (stepS (h1 := h) (d := .non) (en_ok (ev_cons rfl (ev_cons (sub1 d _ _ _ _ _ _) ev_nil)) e)).trans (stepT (h1 := h) (isN_true rfl) (retR rfl))
/-- up to the loop -/
theorem rd_head {v : D} (hk : t_SIZES.lookup k = some n) (hn : (k == cps "not" || k == cps "both" || k == cps "either") = true)
    (e : sSeq (sFor (iRange1 (e2 pSub (e1 (pGetTab t_SIZES) (eVar 2)) (eC (.int 1)))) (gVar 5) (rdB m)) (sFrz 4 (sRet (eTup [e1 pTuple (eVar 4), eVar 3]))) [.val (.lst (.str k :: L)), .val (.int ((d + 1 : Nat) : Int)), .val (.str k), .val (.lst L), .own (.lst [.str k]), .no, .no] h = .rt v h) :
    run 7 2 (b_read_clue_from m) [.lst (.str k :: L), .int ((d + 1 : Nat) : Int)] h = .ok v h := by
  have n2 : (0 : Int) < (L.length : Int) + 1 := by omega
  have i0 : e2 pIdx (eVar 0) (eC (.int 0)) [.val (.lst (.str k :: L)), .val (.int ((d + 1 : Nat) : Int)), .no, .no, .no, .no, .no] h = .ok (.str k) h := by
    simp [e2, eVar, eC, bindM, retM, nx_ok, pIdx, getAt, ixOf, ofOpt, n2]
  have i1 : eSlice (eVar 0) (some (eC (.int 1))) none [.val (.lst (.str k :: L)), .val (.int ((d + 1 : Nat) : Int)), .no, .no, .no, .no, .no] h = .ok (.lst L) h := by
    simp [eSlice, optInt, eVar, eC, bindM, retM, nx_ok, pSlice, cutD1]
  have i2 : tOf (e2 pNotIn (eVar 2) (eTup [eC k_NOT, eC k_BOTH, eC k_EITHER])) [.val (.lst (.str k :: L)), .val (.int ((d + 1 : Nat) : Int)), .val (.str k), .val (.lst L), .no, .no, .no] h = .ok false h := by
    have q : (cps "not" == k || (cps "both" == k || cps "either" == k)) = true := by
      rw [Bool.or_assoc] at hn
      simp only [Bool.or_eq_true, beq_iff_eq] at hn ⊢
      rcases hn with z | z | z <;> simp [z]
    simp [tOf, e2, eVar, eC, bindM, retM, nx_ok, eTup, eN, evs, mkTup, pNotIn, inD, flat, deq_str, q, ofOpt, pTruth, truth]
  exact runR rfl ((stepF (h1 := h) (rd_test hk (d + 1) _ _ _ _ _)).trans ((stepP (h1 := h) (h2 := h) i0 i1).trans ((stepF (h1 := h) i2).trans ((stepO (h1 := h) (ev_cons rfl ev_nil)).trans e))))
theorem rd_leaf {v : D} (hk : t_SIZES.lookup k = some n) (hn : (k == cps "not" || k == cps "both" || k == cps "either") = false)
    (e : m_read_word [.str k, .lst L] h = .ok v h) : run 7 2 (b_read_clue_from m) [.lst (.str k :: L), .int ((d + 1 : Nat) : Int)] h = .ok v h := by
  have n2 : (0 : Int) < (L.length : Int) + 1 := by omega
  have i0 : e2 pIdx (eVar 0) (eC (.int 0)) [.val (.lst (.str k :: L)), .val (.int ((d + 1 : Nat) : Int)), .no, .no, .no, .no, .no] h = .ok (.str k) h := by
    simp [e2, eVar, eC, bindM, retM, nx_ok, pIdx, getAt, ixOf, ofOpt, n2]
  have i1 : eSlice (eVar 0) (some (eC (.int 1))) none [.val (.lst (.str k :: L)), .val (.int ((d + 1 : Nat) : Int)), .no, .no, .no, .no, .no] h = .ok (.lst L) h := by
    simp [eSlice, optInt, eVar, eC, bindM, retM, nx_ok, pSlice, cutD1]
  have i2 : tOf (e2 pNotIn (eVar 2) (eTup [eC k_NOT, eC k_BOTH, eC k_EITHER])) [.val (.lst (.str k :: L)), .val (.int ((d + 1 : Nat) : Int)), .val (.str k), .val (.lst L), .no, .no, .no] h = .ok true h := by
    have q : (cps "not" == k || (cps "both" == k || cps "either" == k)) = false := by
      rw [Bool.or_assoc] at hn
      simp only [Bool.or_eq_false_iff, beq_eq_false_iff_ne] at hn ⊢
      exact ⟨Ne.symm hn.1, Ne.symm hn.2.1, Ne.symm hn.2.2⟩
    simp [tOf, e2, eVar, eC, bindM, retM, nx_ok, eTup, eN, evs, mkTup, pNotIn, inD, flat, deq_str, q, ofOpt, pTruth, truth]
  exact runR rfl ((stepF (h1 := h) (rd_test hk (d + 1) _ _ _ _ _)).trans ((stepP (h1 := h) (h2 := h) i0 i1).trans (stepT (h1 := h) i2 (retR (en_ok (ev_cons rfl (ev_cons rfl ev_nil)) e)))))
/-- one clue in it -/
theorem rd_not {x : D} (e : m [.lst L, .int (d : Int)] h = .ok (.tup [x, .lst r]) h) : run 7 2 (b_read_clue_from m) [.lst (k_NOT :: L), .int ((d + 1 : Nat) : Int)] h = .ok (.tup [.tup [k_NOT, x], .lst r]) h := by
  refine rd_head (k := cps "not") (n := 2) (by decide) (by decide) ?_
  refine (stepFor (h1 := h) (h2 := h) (ds := [.int 0]) (range_it (i := 1) rfl (by decide)) ((forG_cons (h2 := h) rfl (rd_turn (by simp) e _ _)).trans forG_nil)).trans ?_
  rfl
theorem rd_not0 (e : m [.lst L, .int (d : Int)] h = .ok .non h) : run 7 2 (b_read_clue_from m) [.lst (k_NOT :: L), .int ((d + 1 : Nat) : Int)] h = .ok .non h :=
  rd_head (k := cps "not") (n := 2) (by decide) (by decide) (stepForR (h1 := h) (ds := [.int 0]) (range_it (i := 1) rfl (by decide)) (forG_rt rfl (rd_stop e _ _)))
theorem rd_two {x y : D} {q : List D} (hk : t_SIZES.lookup k = some 3) (hn : (k == cps "not" || k == cps "both" || k == cps "either") = true) (e : m [.lst L, .int (d : Int)] h = .ok (.tup [x, .lst r]) h) (e' : m [.lst r, .int (d : Int)] h = .ok (.tup [y, .lst q]) h) :
    run 7 2 (b_read_clue_from m) [.lst (.str k :: L), .int ((d + 1 : Nat) : Int)] h = .ok (.tup [.tup [.str k, x, y], .lst q]) h := by
  refine rd_head hk hn ?_
  have hi : iRange1 (e2 pSub (e1 (pGetTab t_SIZES) (eVar 2)) (eC (.int 1))) [.val (.lst (.str k :: L)), .val (.int ((d + 1 : Nat) : Int)), .val (.str k), .val (.lst L), .own (.lst [.str k]), .no, .no] h = .ok [.int 0, .int 1] h :=
    range_it (i := 2) (by simp [e2, e1, eVar, eC, bindM, retM, nx_ok, pGetTab, hk, ofOpt, pSub]) (by decide)
  refine (stepFor (h1 := h) (h2 := h) hi ((forG_cons (h2 := h) rfl (rd_turn (by simp) e _ _)).trans ((forG_cons (h2 := h) rfl (rd_turn (by simp) e' _ _)).trans forG_nil))).trans ?_
  rfl
theorem rd_two0 (hk : t_SIZES.lookup k = some 3) (hn : (k == cps "not" || k == cps "both" || k == cps "either") = true) (e : m [.lst L, .int (d : Int)] h = .ok .non h) :
    run 7 2 (b_read_clue_from m) [.lst (.str k :: L), .int ((d + 1 : Nat) : Int)] h = .ok .non h := by
  have hi : iRange1 (e2 pSub (e1 (pGetTab t_SIZES) (eVar 2)) (eC (.int 1))) [.val (.lst (.str k :: L)), .val (.int ((d + 1 : Nat) : Int)), .val (.str k), .val (.lst L), .own (.lst [.str k]), .no, .no] h = .ok [.int 0, .int 1] h :=
    range_it (i := 2) (by simp [e2, e1, eVar, eC, bindM, retM, nx_ok, pGetTab, hk, ofOpt, pSub]) (by decide)
  exact rd_head hk hn (stepForR (h1 := h) hi (forG_rt rfl (rd_stop e _ _)))
theorem rd_two1 {x : D} (hk : t_SIZES.lookup k = some 3) (hn : (k == cps "not" || k == cps "both" || k == cps "either") = true) (e : m [.lst L, .int (d : Int)] h = .ok (.tup [x, .lst r]) h) (e' : m [.lst r, .int (d : Int)] h = .ok .non h) :
    run 7 2 (b_read_clue_from m) [.lst (.str k :: L), .int ((d + 1 : Nat) : Int)] h = .ok .non h := by
  have hi : iRange1 (e2 pSub (e1 (pGetTab t_SIZES) (eVar 2)) (eC (.int 1))) [.val (.lst (.str k :: L)), .val (.int ((d + 1 : Nat) : Int)), .val (.str k), .val (.lst L), .own (.lst [.str k]), .no, .no] h = .ok [.int 0, .int 1] h :=
    range_it (i := 2) (by simp [e2, e1, eVar, eC, bindM, retM, nx_ok, pGetTab, hk, ofOpt, pSub]) (by decide)
  exact rd_head hk hn (stepForR (h1 := h) hi ((forG_cons (h2 := h) rfl (rd_turn (by simp) e _ _)).trans (forG_rt rfl (rd_stop e' _ _))))
end
end Cf
set_option Elab.async false
set_option linter.all false
set_option maxRecDepth 100000
set_option maxHeartbeats 4000000
/-! KD: what is read; alike -/
namespace Cf
section
variable {k : List Nat} {L r : List D} {h : List O} {m : List D → M D} {n : Int}
theorem rd_leaf' {v : D} (d : Nat) (hk : t_SIZES.lookup k = some n) (hn : (k == cps "not" || k == cps "both" || k == cps "either") = false) (e : m_read_word [.str k, .lst L] h = .ok v h) :
    run 7 2 (b_read_clue_from m) [.lst (.str k :: L), .int (d : Int)] h = .ok (if 1 ≤ d then v else .non) h := by
  cases d with
  | zero => exact rd_no hk
  | succ d => rw [if_pos (Nat.le_add_left 1 d)]; exact rd_leaf hk hn e
theorem rw0 : m_read_word [.str (cps "turned"), .lst r] h = .ok (.tup [.tup [.str (cps "turned")], .lst r]) h := by
  have c1 : cut r none (some (0 : Int)) = [] := cutT _ 0
  have c2 : cut r (some (0 : Int)) none = r := cutD r (n := 0) (by simp)
  refine runR rfl ((stepS (h1 := h) (d := .int 0) rfl).trans ((stepF (h1 := h) ?_).trans ((stepS (h1 := h) (d := .tup [.str (cps "turned")]) ?_).trans ((stepF (h1 := h) (kindR rfl (by decide))).trans (retR ?_)))))
  · have n1 : ¬ ((r.length : Int) < 0) := by omega
    simp [tOf, e2, e1, eVar, eC, bindM, retM, nx_ok, pLen, pLt, pCmp, pTruth, truth, ofOpt, n1]
  · simp [e2, e1, eTup, eN, evs, mkTup, eVar, bindM, retM, nx_ok, eSlice, optInt, pSlice, c1, pTuple, pAdd, LIM]
  · simp [eTup, eN, evs, mkTup, eVar, bindM, retM, nx_ok, eSlice, optInt, pSlice, c2]
end
theorem okT {p : Prop} [Decidable p] {x : R D} {a b : D} {h : List O} (hp : p) (e : x = .ok a h) : x = .ok (if p then a else b) h := by rw [if_pos hp]; exact e
theorem okF {p : Prop} [Decidable p] {x : R D} {a b : D} {h : List O} (hp : ¬ p) (e : x = .ok b h) : x = .ok (if p then a else b) h := by rw [if_neg hp]; exact e
theorem rd_ok : ∀ (c : Cl) (n d : Nat) (r : List D) (h : List O), okC c → dep c ≤ n → m_read_clue_from n [.lst (stL (wc c) ++ r), .int (d : Int)] h = .ok (if dep c ≤ d then .tup [toD c, .lst r] else .non) h
  | c, 0, d, r, h, _, hn => by cases c <;> simp [dep] at hn
  | .like p, n + 1, d, r, h, ok, hn => rd_leaf' d (k := cps "like") (n := 2) (by decide) (by decide) (rw1 (by decide) (by decide) _ _)
  | .begins p, n + 1, d, r, h, ok, hn => rd_leaf' d (k := cps "begins") (n := 2) (by decide) (by decide) (rw1 (by decide) (by decide) _ _)
  | .ends p, n + 1, d, r, h, ok, hn => rd_leaf' d (k := cps "ends") (n := 2) (by decide) (by decide) (rw1 (by decide) (by decide) _ _)
  | .holds p, n + 1, d, r, h, ok, hn => rd_leaf' d (k := cps "holds") (n := 2) (by decide) (by decide) (rw1 (by decide) (by decide) _ _)
  | .count c m, n + 1, d, r, h, ok, hn => rd_leaf' d (k := cps "count") (n := 3) (by decide) (by decide) (rw3 (num_in ok.2.1 ok.2.2 h) _ _)
  | .frm a b, n + 1, d, r, h, ok, hn => rd_leaf' d (k := cps "from") (n := 3) (by decide) (by decide) (rw2 _ _ _)
  | .back p, n + 1, d, r, h, ok, hn => rd_leaf' d (k := cps "back") (n := 2) (by decide) (by decide) (rw1 (by decide) (by decide) _ _)
  | .turned, n + 1, d, r, h, ok, hn => rd_leaf' d (k := cps "turned") (n := 1) (by decide) (by decide) rw0
  | .neg c, n + 1, 0, r, h, ok, hn => rd_no (k := cps "not") (n := 2) (by decide)
  | .neg c, n + 1, d + 1, r, h, ok, hn => by
    simp only [dep] at hn
    have e := rd_ok c n d r h ok (by omega)
    simp only [dep]
    by_cases hd : dep c ≤ d
    · rw [if_pos hd] at e
      refine okT (by omega) ?_
      exact rd_not e
    · rw [if_neg hd] at e
      refine okF (by omega) ?_
      exact rd_not0 e
  | .both a b, n + 1, 0, r, h, ok, hn => by
    simp only [dep]
    refine okF (by omega) ?_
    exact rd_no (k := cps "both") (n := 3) (by decide)
  | .both a b, n + 1, d + 1, r, h, ok, hn => by
    simp only [dep] at hn
    have e := rd_ok a n d (stL (wc b) ++ r) h ok.1 (by omega)
    have e' := rd_ok b n d r h ok.2 (by omega)
    simp only [dep, wc]
    have el : stL (cps "both" :: (wc a ++ wc b)) ++ r = .str (cps "both") :: (stL (wc a) ++ (stL (wc b) ++ r)) := by simp [stL]
    rw [el]
    by_cases ha : dep a ≤ d
    · rw [if_pos ha] at e
      by_cases hb : dep b ≤ d
      · rw [if_pos hb] at e'
        refine okT (by omega) ?_
        exact rd_two (by decide) (by decide) e e'
      · rw [if_neg hb] at e'
        refine okF (by omega) ?_
        exact rd_two1 (by decide) (by decide) e e'
    · rw [if_neg ha] at e
      refine okF (by omega) ?_
      exact rd_two0 (by decide) (by decide) e
  | .either a b, n + 1, 0, r, h, ok, hn => by
    simp only [dep]
    refine okF (by omega) ?_
    exact rd_no (k := cps "either") (n := 3) (by decide)
  | .either a b, n + 1, d + 1, r, h, ok, hn => by
    simp only [dep] at hn
    have e := rd_ok a n d (stL (wc b) ++ r) h ok.1 (by omega)
    have e' := rd_ok b n d r h ok.2 (by omega)
    simp only [dep, wc]
    have el : stL (cps "either" :: (wc a ++ wc b)) ++ r = .str (cps "either") :: (stL (wc a) ++ (stL (wc b) ++ r)) := by simp [stL]
    rw [el]
    by_cases ha : dep a ≤ d
    · rw [if_pos ha] at e
      by_cases hb : dep b ≤ d
      · rw [if_pos hb] at e'
        refine okT (by omega) ?_
        exact rd_two (by decide) (by decide) e e'
      · rw [if_neg hb] at e'
        refine okF (by omega) ?_
        exact rd_two1 (by decide) (by decide) e e'
    · rw [if_neg ha] at e
      refine okF (by omega) ?_
      exact rd_two0 (by decide) (by decide) e
/-! ### a text -/
theorem splitL_word {c : Nat} : ∀ {w acc r : List Nat}, c ∉ w → splitL c acc (w ++ r) = splitL c (acc ++ w) r
  | [], acc, r, _ => by simp
  | x :: w, acc, r, h => by
    rw [List.cons_append, splitL, if_neg (fun z => h (by rw [z]; simp)), splitL_word (fun z => h (List.mem_cons_of_mem _ z))]
    simp
theorem splitL_join {c : Nat} : ∀ {ws : List (List Nat)}, ws ≠ [] → (∀ w ∈ ws, c ∉ w) → splitL c [] (joinL [c] ws) = ws
  | [], h, _ => absurd rfl h
  | [w], _, q => by
    have z := splitL_word (c := c) (w := w) (acc := []) (r := []) (q w (by simp))
    rw [List.append_nil] at z
    rw [joinL, z, List.nil_append, splitL]
  | w :: v :: ws, _, q => by
    have ih := splitL_join (c := c) (ws := v :: ws) (by simp) fun x hx => q x (List.mem_cons_of_mem _ hx)
    rw [joinL_cons _ _ (by simp), List.append_assoc, splitL_word (q w (by simp)), List.nil_append, List.singleton_append, splitL, if_pos rfl, ih]
theorem no_sp {s : List Nat} {a b : Nat} {sg : List Nat} (hs : 32 ∉ sg) (q : Tx s a b sg) : 32 ∉ s := fun z => hs (q.2.2 _ z)
theorem wc_nosp : ∀ c : Cl, okC c → ∀ w ∈ wc c, 32 ∉ w
  | .like p, ok => by
    intro w hw
    simp only [wc, List.mem_cons, List.not_mem_nil, or_false] at hw
    rcases hw with rfl | rfl
    · decide
    · exact no_sp (by decide) ok
  | .begins p, ok => by
    intro w hw
    simp only [wc, List.mem_cons, List.not_mem_nil, or_false] at hw
    rcases hw with rfl | rfl
    · decide
    · exact no_sp (by decide) ok
  | .ends p, ok => by
    intro w hw
    simp only [wc, List.mem_cons, List.not_mem_nil, or_false] at hw
    rcases hw with rfl | rfl
    · decide
    · exact no_sp (by decide) ok
  | .holds p, ok => by
    intro w hw
    simp only [wc, List.mem_cons, List.not_mem_nil, or_false] at hw
    rcases hw with rfl | rfl
    · decide
    · exact no_sp (by decide) ok
  | .count c n, ok => by
    intro w hw
    simp only [wc, List.mem_cons, List.not_mem_nil, or_false] at hw
    rcases hw with rfl | rfl | rfl
    · decide
    · intro z
      rw [List.mem_singleton] at z
      subst z
      exact absurd ok.1 (by decide)
    · rcases five ok.2.1 ok.2.2 with rfl | rfl | rfl | rfl | rfl <;> decide
  | .frm a b, ok => by
    intro w hw
    simp only [wc, List.mem_cons, List.not_mem_nil, or_false] at hw
    rcases hw with rfl | rfl | rfl
    · decide
    · exact no_sp (by decide) ok.1
    · exact no_sp (by decide) ok.2
  | .back p, ok => by
    intro w hw
    simp only [wc, List.mem_cons, List.not_mem_nil, or_false] at hw
    rcases hw with rfl | rfl
    · decide
    · exact no_sp (by decide) ok
  | .turned, ok => by
    intro w hw
    simp only [wc, List.mem_cons, List.not_mem_nil, or_false] at hw
    subst hw
    decide
  | .neg c, ok => by
    intro w hw
    simp only [wc, List.mem_cons] at hw
    rcases hw with rfl | hw
    · decide
    · exact wc_nosp c ok w hw
  | .both a b, ok => by
    intro w hw
    simp only [wc, List.mem_cons, List.mem_append] at hw
    rcases hw with rfl | hw | hw
    · decide
    · exact wc_nosp a ok.1 w hw
    · exact wc_nosp b ok.2 w hw
  | .either a b, ok => by
    intro w hw
    simp only [wc, List.mem_cons, List.mem_append] at hw
    rcases hw with rfl | hw | hw
    · decide
    · exact wc_nosp a ok.1 w hw
    · exact wc_nosp b ok.2 w hw
theorem read_words {ws : List (List Nat)} {v : D} {h : List O} (hne : ws ≠ []) (q : ∀ w ∈ ws, 32 ∉ w) (hl : (joinL sp ws).length ≤ 10000000) (e : m_clue_in [.lst (stL ws)] h = .ok v h) : m_read_clue [.str (joinL sp ws)] h = .ok v h := by
  have l : (joinL sp ws).length ≤ LIM := Nat.le_trans hl (by decide)
  have s : eS2 pSplit (eVar 0) (eC (.str (cps " "))) [.val (.str (joinL sp ws))] h = .ok (.lst (stL ws)) h := by
    refine (s2_ok (s := joinL sp ws) (v := .str [32]) (h1 := h) (h2 := h) rfl rfl).trans ?_
    show (if _ then _ else _ : M D) h = _
    rw [if_pos ⟨by decide, l⟩, splitL_join hne q]
    rfl
  exact runR rfl ((stepE (h1 := h) (en_ok (ev_cons rfl (ev_cons rfl ev_nil)) (check_ok (cps "text") h))).trans (retR (en_ok (ev_cons s ev_nil) e)))
theorem in_non {W : List D} {h : List O} (e : m_read_clue_from 8 [.lst W, .int 4] h = .ok .non h) : m_clue_in [.lst W] h = .ok .non h :=
  runR rfl ((stepS (h1 := h) (d := .non) (en_ok (ev_cons rfl (ev_cons rfl ev_nil)) e)).trans (retR rfl))
theorem in_rest {W r : List D} {x y : D} {h : List O} (e : m_read_clue_from 8 [.lst W, .int 4] h = .ok (.tup [x, .lst (y :: r)]) h) : m_clue_in [.lst W] h = .ok .non h := by
  refine runR rfl ((stepS (h1 := h) (d := .tup [x, .lst (y :: r)]) (en_ok (ev_cons rfl (ev_cons rfl ev_nil)) e)).trans (retR ?_))
  have n1 : ¬ ((r.length : Int) + 1 = 0) := by omega
  simp [eIf, tAnd, tOf, e1, e2, eVar, eC, bindM, retM, nx_ok, pNotN, isNon, pTruth, truth, ofOpt, pIdx, getAt, ixOf, pLen, pEq_int, n1]
theorem in_ok {W : List D} {c : Cl} {h : List O} (ok : okC c) (hd : dep c ≤ 4) (e : m_read_clue_from 8 [.lst W, .int 4] h = .ok (.tup [toD c, .lst []]) h) : m_clue_in [.lst W] h = .ok (toD c) h := by
  refine runR rfl ((stepS (h1 := h) (d := .tup [toD c, .lst []]) (en_ok (ev_cons rfl (ev_cons rfl ev_nil)) e)).trans (retR ?_))
  have t := is_clue_true ok hd h
  simp [eIf, tAnd, tOf, e1, e2, eVar, eC, bindM, retM, nx_ok, pNotN, isNon, pTruth, truth, ofOpt, pIdx, getAt, ixOf, pLen, pEq_int, eN, evs, t]
theorem read_ok {c : Cl} (ok : okC c) (hd : dep c ≤ 4) (h : List O) : m_read_clue [.str (tx c)] h = .ok (toD c) h := by
  refine read_words (wc_ne c) (wc_nosp c ok) (Nat.le_trans (tx_small ok (by omega)) (by decide)) (in_ok ok hd ?_)
  have e := rd_ok c 8 4 [] h ok (by omega)
  rw [if_pos hd, List.append_nil] at e
  exact e
theorem read_more {c : Cl} (ok : okC c) (hd : dep c ≤ 4) (w : List Nat) (hw : 32 ∉ w) (hl : w.length ≤ 100) (h : List O) : m_read_clue [.str (tx c ++ (32 :: w))] h = .ok .non h := by
  have j : tx c ++ (32 :: w) = joinL sp (wc c ++ [w]) := by
    rw [joinL_app _ (by simp) (wc_ne c)]
    simp [tx, joinL]
  have l := tx_small ok (show dep c ≤ 8 by omega)
  rw [j]
  refine read_words (by simp) (fun x hx => ?_) (by rw [← j, List.length_append, List.length_cons]; omega) ?_
  · rcases List.mem_append.mp hx with hx | hx
    · exact wc_nosp c ok x hx
    · rw [List.mem_singleton.mp hx]; exact hw
  · have e := rd_ok c 8 4 [.str w] h ok (by omega)
    rw [if_pos hd] at e
    refine in_rest (x := toD c) (y := .str w) (r := []) ?_
    rw [stL, List.map_append]
    exact e
theorem read_both {c : Cl} (ok : okC c) (hd : dep c ≤ 4) (h : List O) : m_read_clue [.str (cps "both " ++ tx c)] h = .ok .non h := by
  have j : cps "both " ++ tx c = joinL sp (cps "both" :: wc c) := by
    rw [joinL_cons _ _ (wc_ne c)]
    rfl
  have l := tx_small ok (show dep c ≤ 8 by omega)
  have l5 : (cps "both ").length = 5 := by decide
  rw [j]
  refine read_words (by simp) (fun x hx => ?_) (by rw [← j, List.length_append]; omega) (in_non ?_)
  · rcases List.mem_cons.mp hx with rfl | hx
    · decide
    · exact wc_nosp c ok x hx
  · have e := rd_ok c 7 3 [] h ok (by omega)
    rw [List.append_nil] at e
    by_cases h3 : dep c ≤ 3
    · rw [if_pos h3] at e
      exact rd_two1 (d := 3) (k := cps "both") (by decide) (by decide) e rfl
    · rw [if_neg h3] at e
      exact rd_two0 (d := 3) (k := cps "both") (by decide) (by decide) e
end Cf
set_option Elab.async false
set_option linter.all false
set_option maxRecDepth 100000
set_option maxHeartbeats 4000000
namespace Cf
/-! ### alike -/
theorem alike_seq {m : List D → M D} {h : List O} {v : D} {xs : List D} (hv : v = .tup xs ∨ v = .lst xs) (hl : xs.length ≤ 100) (q : ∀ x ∈ xs, m [x, x] h = .ok (.bl true) h) : run 4 2 (b__law_alike m) [v, v] h = .ok (.bl true) h := by
  have ip : ∀ k : Int, 0 ≤ k → k < (xs.length : Int) → ∃ x ∈ xs, pIdx v (.int k) = ret x := fun k h0 h1 => by
    have h2 : k.toNat < xs.length := by omega
    refine ⟨xs[k.toNat], List.getElem_mem _, ?_⟩
    rcases hv with rfl | rfl <;> simp [pIdx, getAt, ixOf, h0, h1, h2, ofOpt]
  have il : pLen v = ret (.int (xs.length : Int)) := by rcases hv with rfl | rfl <;> rfl
  have t1 : ∀ i : Nat, i < 2 → tOf (e1 (pIsi [.tuple, .list]) (eVar i)) [.val v, .val v, .no, .no] h = .ok true h := by
    intro i hi
    match i, hi with
    | 0, _ => rcases hv with rfl | rfl <;> rfl
    | 1, _ => rcases hv with rfl | rfl <;> rfl
  have t2 : tOr (tNot (tOf (e1 (pIsi [.tuple, .list]) (eVar 0)))) (tOf (e2 pNe (e1 (pIsi [.list]) (eVar 0)) (e1 (pIsi [.list]) (eVar 1)))) [.val v, .val v, .no, .no] h = .ok false h := by
    rcases hv with rfl | rfl <;> rfl
  have t3 : tOf (e2 pNe (e1 pLen (eVar 0)) (e1 pLen (eVar 1))) [.val v, .val v, .no, .no] h = .ok false h := by
    simp [tOf, e2, e1, eVar, bindM, nx_ok, il, retM, pNe_int, pTruth, truth, ofOpt]
  have z := comp_f (it := iRange1 (e1 pLen (eVar 1))) (g := gVar 2) (t := tNot (tOf (eN m [e2 pIdx (eVar 0) (eVar 2), e2 pIdx (eVar 1) (eVar 2)]))) (e := eVar 2) (vs := [2]) (σ := [.val v, .val v, .no, .no]) (h := h) (ds := rangeD 0 (xs.length : Int)) (f := fun _ => false) (u := id)
    (range_it (by simp [e1, eVar, bindM, nx_ok, il, retM]) (small_ok (by omega) (by omega))) (range_len (by omega)) (fun d hd => by
      obtain ⟨k, rfl, h0, h1⟩ := rangeD_mem hd
      obtain ⟨x, hx, ex⟩ := ip k h0 h1
      refine ⟨_, rfl, ?_, rfl⟩
      simp [tNot, tOf, eN, evs, e2, eVar, wipe, gVar, bindM, nx_ok, ex, retM, q x hx, pTruth, truth, ofOpt])
  have z : eComp (iRange1 (e1 pLen (eVar 1))) (gVar 2) (tNot (tOf (eN m [e2 pIdx (eVar 0) (eVar 2), e2 pIdx (eVar 1) (eVar 2)]))) (eVar 2) [2] [.val v, .val v, .no, .no] h = .ok (.lst []) h := by
    rw [z]
    have : (rangeD 0 (xs.length : Int)).filter (fun _ => false) = [] := List.filter_eq_nil_iff.mpr fun _ _ => by simp
    rw [this]; rfl
  exact runR rfl (stepT (h1 := h) (t1 1 (by decide)) ((stepF (h1 := h) t2).trans ((stepF (h1 := h) t3).trans (retR ((e2_ok (h2 := h) z rfl).trans rfl)))))
theorem alike_str (s : List Nat) (n : Nat) (h : List O) : m__law_alike (n + 1) [.str s, .str s] h = .ok (.bl true) h := by
  have e1' : e2 pEq (eVar 0) (eVar 1) [.val (.str s), .val (.str s), .no, .no] h = .ok (.bl true) h := by
    simp [e2, eVar, bindM, nx_ok, pEq_str, retM]
  exact runR rfl ((stepF (h1 := h) rfl).trans ((stepF (h1 := h) rfl).trans (stepT (h1 := h) rfl (retR ((andT e1').trans rfl)))))
theorem alike_int (i : Int) (n : Nat) (h : List O) : m__law_alike (n + 1) [.int i, .int i] h = .ok (.bl true) h := by
  have e1' : e2 pEq (eVar 0) (eVar 1) [.val (.int i), .val (.int i), .no, .no] h = .ok (.bl true) h := by
    simp [e2, eVar, bindM, nx_ok, pEq_int, retM]
  exact runR rfl ((stepF (h1 := h) rfl).trans ((stepF (h1 := h) rfl).trans ((stepF (h1 := h) rfl).trans (retR ((andT rfl).trans ((andT rfl).trans e1'))))))
theorem alike_two {m : List D → M D} {h : List O} {x y : D} (e : m [x, x] h = .ok (.bl true) h) (e' : m [y, y] h = .ok (.bl true) h) : ∀ z ∈ [x, y], m [z, z] h = .ok (.bl true) h := by
  intro z hz
  simp only [List.mem_cons, List.not_mem_nil, or_false] at hz
  rcases hz with rfl | rfl <;> assumption
theorem alike_three {m : List D → M D} {h : List O} {x y u : D} (e : m [x, x] h = .ok (.bl true) h) (e' : m [y, y] h = .ok (.bl true) h) (e'' : m [u, u] h = .ok (.bl true) h) : ∀ z ∈ [x, y, u], m [z, z] h = .ok (.bl true) h := by
  intro z hz
  simp only [List.mem_cons, List.not_mem_nil, or_false] at hz
  rcases hz with rfl | rfl | rfl <;> assumption
theorem alike_one {m : List D → M D} {h : List O} {x : D} (e : m [x, x] h = .ok (.bl true) h) : ∀ z ∈ [x], m [z, z] h = .ok (.bl true) h := by
  intro z hz
  rw [List.mem_singleton.mp hz]; exact e
theorem alike_clue : ∀ (c : Cl) (n : Nat) (h : List O), dep c + 1 ≤ n → m__law_alike n [toD c, toD c] h = .ok (.bl true) h
  | c, 0, h, hn => by omega
  | c, 1, h, hn => by cases c <;> simp [dep] at hn
  | .like p, n + 2, h, _ => alike_seq (.inl rfl) (by simp) (alike_two (alike_str _ n h) (alike_str _ n h))
  | .begins p, n + 2, h, _ => alike_seq (.inl rfl) (by simp) (alike_two (alike_str _ n h) (alike_str _ n h))
  | .ends p, n + 2, h, _ => alike_seq (.inl rfl) (by simp) (alike_two (alike_str _ n h) (alike_str _ n h))
  | .holds p, n + 2, h, _ => alike_seq (.inl rfl) (by simp) (alike_two (alike_str _ n h) (alike_str _ n h))
  | .count c m, n + 2, h, _ => alike_seq (.inl rfl) (by simp) (alike_three (alike_str _ n h) (alike_str _ n h) (alike_int _ n h))
  | .frm a b, n + 2, h, _ => alike_seq (.inl rfl) (by simp) (alike_three (alike_str _ n h) (alike_str _ n h) (alike_str _ n h))
  | .back p, n + 2, h, _ => alike_seq (.inl rfl) (by simp) (alike_two (alike_str _ n h) (alike_str _ n h))
  | .turned, n + 2, h, _ => alike_seq (.inl rfl) (by simp) (alike_one (alike_str _ n h))
  | .neg c, n + 2, h, hn => by
    simp only [dep] at hn
    exact alike_seq (.inl rfl) (by simp) (alike_two (alike_str _ n h) (alike_clue c (n + 1) h (by omega)))
  | .both a b, n + 2, h, hn => by
    simp only [dep] at hn
    exact alike_seq (.inl rfl) (by simp) (alike_three (alike_str _ n h) (alike_clue a (n + 1) h (by omega)) (alike_clue b (n + 1) h (by omega)))
  | .either a b, n + 2, h, hn => by
    simp only [dep] at hn
    exact alike_seq (.inl rfl) (by simp) (alike_three (alike_str _ n h) (alike_clue a (n + 1) h (by omega)) (alike_clue b (n + 1) h (by omega)))
end Cf
set_option Elab.async false
set_option linter.all false
set_option maxRecDepth 100000
set_option maxHeartbeats 4000000
namespace Cf
/-! ### texts that are no clue -/
abbrev N1 : List D := [.str (cps ""), .str (cps " "), .str (cps "like"), .str (cps "like a"), .str (cps "like a? b"), .str (cps "begins abcde"), .str (cps "begins A"), .str (cps "holds"), .str (cps "count a"), .str (cps "count a 5"), .str (cps "count ab 1"), .str (cps "count a 01"), .str (cps "from a"), .str (cps "back a"), .str (cps "turned a"), .str (cps "not")]
abbrev N2 : List D := [.str (cps "both turned"), .str (cps "either turned turned turned"), .str (cps "not not not not turned"), .str (cps "Turned"), .str (cps "sounds a"), .str (cps "like  a?"), .str (cps " turned"), .str (cps "turned "), .str (cps "count a -1")]
abbrev N3 (t : List Nat) : List D := [.str (t ++ cps " "), .str (t ++ cps " turned"), .str (cps "both " ++ t), .str (cps "not")]
theorem wrong1 : ∀ x ∈ N1, ∀ h, m_read_clue [x] h = .ok .non h := by
  intro x hx h
  simp only [List.mem_cons, List.not_mem_nil, or_false] at hx
  rcases hx with rfl | rfl | rfl | rfl | rfl | rfl | rfl | rfl | rfl | rfl | rfl | rfl | rfl | rfl | rfl | rfl <;> kernel_rfl
theorem wrong2 : ∀ x ∈ N2, ∀ h, m_read_clue [x] h = .ok .non h := by
  intro x hx h
  simp only [List.mem_cons, List.not_mem_nil, or_false] at hx
  rcases hx with rfl | rfl | rfl | rfl | rfl | rfl | rfl | rfl | rfl <;> kernel_rfl
theorem wrong3 {c : Cl} (ok : okC c) (hd : dep c ≤ 4) : ∀ x ∈ N3 (tx c), ∀ h, m_read_clue [x] h = .ok .non h := by
  intro x hx h
  simp only [List.mem_cons, List.not_mem_nil, or_false] at hx
  rcases hx with rfl | rfl | rfl | rfl
  · exact read_more ok hd [] (by simp) (by simp) h
  · exact read_more ok hd (cps "turned") (by decide) (by decide) h
  · exact read_both ok hd h
  · kernel_rfl
theorem no_clue {c : Cl} (ok : okC c) (hd : dep c ≤ 4) {h : List O} (r : Rw h) : ∃ x h', m__law_no_clue [.ref 0, .str (tx c)] h = .ok x h' ∧ (∀ h, m_read_clue [x] h = .ok .non h) ∧ Rw h' := by
  have l := tx_small ok (show dep c ≤ 8 by omega)
  have l1 : (cps " ").length = 1 := by decide
  have l2 : (cps " turned").length = 7 := by decide
  have l3 : (cps "both ").length = 5 := by decide
  have n1 : (tx c).length + 1 ≤ 16000000 := by omega
  have n2 : (tx c).length + 7 ≤ 16000000 := by omega
  have n3 : 5 + (tx c).length ≤ 16000000 := by omega
  have e3 : e2 pAdd (eVar 2) (eLst [e2 pAdd (eVar 1) (eC (.str (cps " "))), e2 pAdd (eVar 1) (eC (.str (cps " turned"))), e2 pAdd (eC (.str (cps "both "))) (eVar 1), eC (.str (cps "not"))]) [.val (.ref 0), .val (.str (tx c)), .val (.lst (N1 ++ N2))] h = .ok (.lst (N1 ++ N2 ++ N3 (tx c))) h := by
    have q : eLst [e2 pAdd (eVar 1) (eC (.str (cps " "))), e2 pAdd (eVar 1) (eC (.str (cps " turned"))), e2 pAdd (eC (.str (cps "both "))) (eVar 1), eC (.str (cps "not"))] [.val (.ref 0), .val (.str (tx c)), .val (.lst (N1 ++ N2))] h = .ok (.lst (N3 (tx c))) h := by
      simp [eLst, eN, evs, e2, eVar, eC, bindM, nx_ok, retM, pAdd, LIM, l1, l2, l3, n1, n2, n3, mkLst]
    exact (e2_ok (u := .lst (N1 ++ N2)) (v := .lst (N3 (tx c))) (h1 := h) (h2 := h) rfl q).trans rfl
  obtain ⟨x, h1, e, hx, r1⟩ := pick_in r (xs := N1 ++ N2 ++ N3 (tx c)) (by simp) (by simp) (σ := [.val (.ref 0), .val (.str (tx c)), .val (.lst (N1 ++ N2))]) rfl e3
  refine ⟨x, h1, runR rfl ((stepS (h1 := h) (d := .lst N1) rfl).trans ((stepS (h1 := h) (d := .lst (N1 ++ N2)) rfl).trans (retR e))), fun h => ?_, r1⟩
  rcases List.mem_append.mp hx with hx | hx
  · rcases List.mem_append.mp hx with hx | hx
    · exact wrong1 x hx h
    · exact wrong2 x hx h
  · exact wrong3 ok hd x hx h
end Cf
set_option Elab.async false
set_option linter.all false
set_option maxRecDepth 100000
set_option maxHeartbeats 4000000
namespace Cf
/-! ### the law -/
abbrev turnT : Ms := (sSeq (sSet 5 (eN (m__law_clue 8) [eVar 1, eC (.int 4)]))
   (sSeq (sSet 6 (eN m_clue_text [eVar 5]))
   (sIf (tOr (tNot (tOf (eN (m__law_alike 8) [eLst [eVar 6, eN m_read_clue [eVar 6]], eLst [eN (m__law_clue_text 8) [eVar 5], eVar 5]]))) (tOf (e1 pNotN (eN m_read_clue [eN m__law_no_clue [eVar 1, eVar 6]]))))
    (sRet (eC (.bl false)))
    (sPass))))
theorem turn16 {h : List O} (r : Rw h) (a0 a2 a3 a4 a5 a6 : Sl) : ∃ b5 b6 h', turnT [a0, .val (.ref 0), a2, a3, a4, a5, a6] h = .nx [a0, .val (.ref 0), a2, a3, a4, b5, b6] h' ∧ Rw h' := by
  obtain ⟨x, h1, e1', ⟨c, rfl, okc, hd⟩, r1⟩ := gen_clue 8 4 h r (by decide) (by decide)
  have hd : dep c ≤ 4 := hd
  obtain ⟨x, h2, e2', hx, r2⟩ := no_clue okc hd r1
  refine ⟨.val (toD c), .val (.str (tx c)), h2, ?_, r2⟩
  refine (stepS (h1 := h1) (d := toD c) (en_ok (ev_cons rfl (ev_cons rfl ev_nil)) e1')).trans ((stepS (h1 := h1) (d := .str (tx c)) (en_ok (ev_cons rfl ev_nil) (clue_text_ok okc hd h1))).trans ?_)
  have al : eN (m__law_alike 8) [eLst [eVar 6, eN m_read_clue [eVar 6]], eLst [eN (m__law_clue_text 8) [eVar 5], eVar 5]] [a0, .val (.ref 0), a2, a3, a4, .val (toD c), .val (.str (tx c))] h1 = .ok (.bl true) h1 :=
    en_ok (ev_cons (en_ok (h1 := h1) (xs := [.str (tx c), toD c]) (ev_cons rfl (ev_cons (en_ok (ev_cons rfl ev_nil) (read_ok okc hd h1)) ev_nil)) rfl) (ev_cons (en_ok (h1 := h1) (xs := [.str (tx c), toD c]) (ev_cons (en_ok (ev_cons rfl ev_nil) (law_text_ok c 8 h1 okc (by omega) (by omega))) (ev_cons rfl ev_nil)) rfl) ev_nil))
      (alike_seq (.inr rfl) (by simp) (alike_two (alike_str _ 6 h1) (alike_clue c 7 h1 (by omega))))
  have rn : eN m_read_clue [eN m__law_no_clue [eVar 1, eVar 6]] [a0, .val (.ref 0), a2, a3, a4, .val (toD c), .val (.str (tx c))] h1 = .ok .non h2 :=
    en_ok (ev_cons (en_ok (ev_cons rfl (ev_cons rfl ev_nil)) e2') ev_nil) (hx h2)
  show sIf _ _ _ [a0, .val (.ref 0), a2, a3, a4, .val (toD c), .val (.str (tx c))] h1 = _
  simp [sIf, tOr, tNot, tOf, bindM, al, rn, e1, nx_ok, pTruth, truth, ofOpt, retM, stmt_ok, sPass, pNotN, isNon]
theorem loop16 (a0 a3 a4 : Sl) : ∀ (ds : List D) (h : List O) (a2 a5 a6 : Sl), Rw h → ∃ b2 b5 b6 h', forGo (gVar 2) turnT ds [a0, .val (.ref 0), a2, a3, a4, a5, a6] h = .nx [a0, .val (.ref 0), b2, a3, a4, b5, b6] h' ∧ Rw h'
  | [], h, a2, a5, a6, r => ⟨a2, a5, a6, h, rfl, r⟩
  | d :: ds, h, a2, a5, a6, r => by
    obtain ⟨b5, b6, h1, e1', r1⟩ := turn16 r a0 (.val d) a3 a4 a5 a6
    obtain ⟨b2, c5, c6, h2, e2', r2⟩ := loop16 a0 a3 a4 ds h1 (.val d) b5 b6 r1
    exact ⟨b2, c5, c6, h2, (forG_cons rfl e1').trans e2', r2⟩
abbrev B5 : List D := [.non, .tup [], .str (cps "turned"), .tup [.str (cps "turn")], .tup [.str (cps "like"), .str (cps "a")]]
abbrev B4 : List D := [.non, .int 0, .lst [.str (cps "turned")], .tup []]
theorem text_er {x : D} (hx : x ∈ B5) (h : List O) : m_clue_text [x] h = .er "BadArgument" [.str (cps "clue")] h := by
  simp only [List.mem_cons, List.not_mem_nil, or_false] at hx
  rcases hx with rfl | rfl | rfl | rfl | rfl <;> kernel_rfl
theorem read_er {x : D} (hx : x ∈ B4) (h : List O) : m_read_clue [x] h = .er "BadArgument" [.str (cps "text")] h := by
  simp only [List.mem_cons, List.not_mem_nil, or_false] at hx
  rcases hx with rfl | rfl | rfl | rfl <;> kernel_rfl
theorem main : ∀ ns : List Int, ns.length ≤ 63 → (∀ z ∈ ns, PySem.Builtin.Int.intBits z ≤ 1048576) → ∃ h', m_law [.lst (ns.map D.int)] [] = .ok (.bl true) h' := by
  intro ns _ _
  have r0 : Rw [.lst [.lst (ns.map D.int), .int 0, .int 7507116, .int 0]] := ⟨ns, 0, 7507116, 0, rfl, Int.le_refl 0⟩
  obtain ⟨b2, b5, b6, h1, e1', r1⟩ := loop16 (.val (.lst (ns.map D.int))) .no .no (rangeD 0 8) _ .no .no .no r0
  obtain ⟨bad, h2, e2', hb, r2⟩ := pick r1 (xs := B5) (by simp) (by simp)
  obtain ⟨wr, h3, e3, hw, r3⟩ := pick r2 (xs := B4) (by simp) (by simp)
  refine ⟨h3, runR (b := b_law) rfl ((stepS (d := .ref 0) rfl).trans ((stepFor (range_it rfl (by decide)) e1').trans ((stepA (h1 := h3) (σ' := [.val (.lst (ns.map D.int)), .val (.ref 0), b2, .val bad, .val wr, b5, b6]) (en_ok (ev_cons (en_ok (ev_cons rfl (ev_cons rfl ev_nil)) e2') (ev_cons (en_ok (ev_cons rfl (ev_cons rfl ev_nil)) e3) ev_nil)) rfl) rfl).trans (retR ?_))))⟩
  refine en_ok (xs := [.lst [.tup [.str (cps "bad"), .str (cps "clue"), .bl true], .tup [.str (cps "bad"), .str (cps "text"), .bl true]], .lst [.tup [.str (cps "bad"), .str (cps "clue"), .bl true], .tup [.str (cps "bad"), .str (cps "text"), .bl true]]]) (h1 := h3) (ev_cons ?_ (ev_cons rfl ev_nil)) rfl
  exact en_ok (ev_cons (heard_ok (en_er (ev_cons rfl ev_nil) (text_er hb h3))) (ev_cons (heard_ok (en_er (ev_cons rfl ev_nil) (read_er hw h3))) ev_nil)) rfl
end Cf
set_option Elab.async false
set_option linter.all false
set_option maxRecDepth 100000
set_option maxHeartbeats 0
namespace Cf
open PySem PySem.Spec PyProof.Rows L2
def inner (s : Stmt) (i : Nat) : Stmt := match s with
  | .ClassDef _ _ _ b _ _ _ _ _ _ _ => b.getD i (.Pass ⟨0, 0, 0, 0⟩)
  | _ => .Pass ⟨0, 0, 0, 0⟩
abbrev si_BadArgument : Stmt := inner (top 2) 0
theorem ss_BadArgument : SupS ["self", "name"] (defScope si_BadArgument) := ⟨rfl, rfl, rfl, by decide, by decide +kernel, by decide +kernel, by decide +kernel, by decide +kernel, by decide +kernel⟩
theorem oi_BadArgument {P : Program} {w : World} {K : PySem.W.Frag} {mg : Str → Option Value} {base : Heap} {C f cc cda : Addr} {fd : FuncData} (F : SupI P K C f cc cda "__init__" "BadArgument.__init__" si_BadArgument fd) (ms : mg "super" = none) (hn : PySem.W.findIn K (.ref C) "name" = some none) (k : Nat) : FnOk P w K mg base (L2.CX P w) (k + 1) f fd ["self", "name"] (sp1 C "name") :=
  init1 F ss_BadArgument rfl rfl ms hn (by decide) rfl rfl (by decide) fun _ _ _ _ => rfl
theorem law_at {w : World} {K : PySem.W.Frag} {mg : Str → Option Value} {fa : Addr} {h : Heap}
    {f_is_number : Addr} {oc_is_number kV_is_number dc_is_number pm_is_number ct_is_number : Value} {od_is_number an_is_number : Option Addr} {sl_is_number : Array (Option Value)}
    {cd_is_number : Value}
    {f_check : Addr} {oc_check kV_check dc_check pm_check ct_check : Value} {od_check an_check : Option Addr} {sl_check : Array (Option Value)}
    {cd_check : Value}
    {f_is_text_of : Addr} {oc_is_text_of kV_is_text_of dc_is_text_of pm_is_text_of ct_is_text_of : Value} {od_is_text_of an_is_text_of : Option Addr} {sl_is_text_of : Array (Option Value)}
    {cd_is_text_of : Addr}
    {q_is_text_of : Addr} {ce_is_text_of : Value} {cdd_is_text_of : Option Addr} {vs_is_text_of : Array Value} {csl_is_text_of : Array (Option Value)}
    {f_is_word : Addr} {oc_is_word kV_is_word dc_is_word pm_is_word ct_is_word : Value} {od_is_word an_is_word : Option Addr} {sl_is_word : Array (Option Value)}
    {cd_is_word : Value}
    {f_is_pattern : Addr} {oc_is_pattern kV_is_pattern dc_is_pattern pm_is_pattern ct_is_pattern : Value} {od_is_pattern an_is_pattern : Option Addr} {sl_is_pattern : Array (Option Value)}
    {cd_is_pattern : Value}
    {f_is_clue_of : Addr} {oc_is_clue_of kV_is_clue_of dc_is_clue_of pm_is_clue_of ct_is_clue_of : Value} {od_is_clue_of an_is_clue_of : Option Addr} {sl_is_clue_of : Array (Option Value)}
    {cd_is_clue_of : Addr}
    {q_is_clue_of : Addr} {ce_is_clue_of : Value} {cdd_is_clue_of : Option Addr} {vs_is_clue_of : Array Value} {csl_is_clue_of : Array (Option Value)}
    {f_is_clue : Addr} {oc_is_clue kV_is_clue dc_is_clue pm_is_clue ct_is_clue : Value} {od_is_clue an_is_clue : Option Addr} {sl_is_clue : Array (Option Value)}
    {cd_is_clue : Value}
    {f_clue_words : Addr} {oc_clue_words kV_clue_words dc_clue_words pm_clue_words ct_clue_words : Value} {od_clue_words an_clue_words : Option Addr} {sl_clue_words : Array (Option Value)}
    {cd_clue_words : Value}
    {f_clue_text : Addr} {oc_clue_text kV_clue_text dc_clue_text pm_clue_text ct_clue_text : Value} {od_clue_text an_clue_text : Option Addr} {sl_clue_text : Array (Option Value)}
    {cd_clue_text : Value}
    {f_number_in : Addr} {oc_number_in kV_number_in dc_number_in pm_number_in ct_number_in : Value} {od_number_in an_number_in : Option Addr} {sl_number_in : Array (Option Value)}
    {cd_number_in : Value}
    {f_read_word : Addr} {oc_read_word kV_read_word dc_read_word pm_read_word ct_read_word : Value} {od_read_word an_read_word : Option Addr} {sl_read_word : Array (Option Value)}
    {cd_read_word : Value}
    {f_read_clue_from : Addr} {oc_read_clue_from kV_read_clue_from dc_read_clue_from pm_read_clue_from ct_read_clue_from : Value} {od_read_clue_from an_read_clue_from : Option Addr} {sl_read_clue_from : Array (Option Value)}
    {cd_read_clue_from : Value}
    {f_clue_in : Addr} {oc_clue_in kV_clue_in dc_clue_in pm_clue_in ct_clue_in : Value} {od_clue_in an_clue_in : Option Addr} {sl_clue_in : Array (Option Value)}
    {cd_clue_in : Value}
    {f_read_clue : Addr} {oc_read_clue kV_read_clue dc_read_clue pm_read_clue ct_read_clue : Value} {od_read_clue an_read_clue : Option Addr} {sl_read_clue : Array (Option Value)}
    {cd_read_clue : Value}
    {f__law_taken : Addr} {oc__law_taken kV__law_taken dc__law_taken pm__law_taken ct__law_taken : Value} {od__law_taken an__law_taken : Option Addr} {sl__law_taken : Array (Option Value)}
    {cd__law_taken : Value}
    {f__law_pick : Addr} {oc__law_pick kV__law_pick dc__law_pick pm__law_pick ct__law_pick : Value} {od__law_pick an__law_pick : Option Addr} {sl__law_pick : Array (Option Value)}
    {cd__law_pick : Value}
    {f__law_text : Addr} {oc__law_text kV__law_text dc__law_text pm__law_text ct__law_text : Value} {od__law_text an__law_text : Option Addr} {sl__law_text : Array (Option Value)}
    {cd__law_text : Value}
    {f__law_clue : Addr} {oc__law_clue kV__law_clue dc__law_clue pm__law_clue ct__law_clue : Value} {od__law_clue an__law_clue : Option Addr} {sl__law_clue : Array (Option Value)}
    {cd__law_clue : Value}
    {f__law_alike : Addr} {oc__law_alike kV__law_alike dc__law_alike pm__law_alike ct__law_alike : Value} {od__law_alike an__law_alike : Option Addr} {sl__law_alike : Array (Option Value)}
    {cd__law_alike : Value}
    {f__law_clue_text : Addr} {oc__law_clue_text kV__law_clue_text dc__law_clue_text pm__law_clue_text ct__law_clue_text : Value} {od__law_clue_text an__law_clue_text : Option Addr} {sl__law_clue_text : Array (Option Value)}
    {cd__law_clue_text : Value}
    {f__law_no_clue : Addr} {oc__law_no_clue kV__law_no_clue dc__law_no_clue pm__law_no_clue ct__law_no_clue : Value} {od__law_no_clue an__law_no_clue : Option Addr} {sl__law_no_clue : Array (Option Value)}
    {cd__law_no_clue : Value}
    {f__law_heard : Addr} {oc__law_heard kV__law_heard dc__law_heard pm__law_heard ct__law_heard : Value} {od__law_heard an__law_heard : Option Addr} {sl__law_heard : Array (Option Value)}
    {cd__law_heard : Value}
    {f_law : Addr} {oc_law kV_law dc_law pm_law ct_law : Value} {od_law an_law : Option Addr} {sl_law : Array (Option Value)}
    {cd_law : Addr}
    {q_law : Addr} {ce_law : Value} {cdd_law : Option Addr} {vs_law : Array Value} {csl_law : Array (Option Value)}
    {t_ANY : Tok}
    {t_BACK : Tok}
    {t_BEGINS : Tok}
    {t_BOTH : Tok}
    {t_COUNT : Tok}
    {t_DIGITS : Tok}
    {t_EITHER : Tok}
    {t_ENDS : Tok}
    {t_FROM : Tok}
    {t_HOLDS : Tok}
    {t_LEAST_LETTERS : Tok}
    {t_LETTERS : Tok}
    {t_LIKE : Tok}
    {t_MOST_DEPTH : Tok}
    {t_MOST_LETTERS : Tok}
    {t_NOT : Tok}
    {a_SIZES : Addr} {es_SIZES : Array DictEntry} {en_SIZES : Nat}
    {C_BadArgument fI_BadArgument cda_BadArgument cc_BadArgument : Addr} {nm_BadArgument q_BadArgument : Str} {N_BadArgument : Addr} {bs_BadArgument bm_BadArgument : List Value} {sn_BadArgument : List Str} {sb_BadArgument : List Value} {ab_BadArgument : Bool} {col_BadArgument : Option Bool} {dd_BadArgument : Option Addr} {m0_BadArgument m1_BadArgument m2_BadArgument m3_BadArgument m5_BadArgument : Option Value}
    {oc_BadArgument kV_BadArgument dc_BadArgument pm_BadArgument ct_BadArgument ccl_BadArgument cl_BadArgument : Value} {od_BadArgument an_BadArgument cdd_BadArgument cld_BadArgument : Option Addr} {sl_BadArgument ccs_BadArgument csl_BadArgument : Array (Option Value)} {vs_BadArgument : Array Value} {file_BadArgument : Str} {tf_BadArgument : Tok}
    {C_CrossError : Addr}
    {C_Unfilled : Addr}
    {C_Refused : Addr}
    {C_Unread : Addr}
    (X : K.In h) (G : h.Ns mainGlobals mg) (T : TabsIn mg h ["is_text_of", "is_clue_of", "law"]) (hfa : mg "law" = some (.ref fa))
    (a_is_number : PySem.W.nsIn K mainGlobals "is_number" = some (some (.ref f_is_number)))
    (l_is_number : K.lookup f_is_number = some ⟨oc_is_number, od_is_number, .func (PySem.W.fnOf "is_number" "is_number" (defArgs s_is_number) (defBody s_is_number) (defScope s_is_number) .none kV_is_number dc_is_number pm_is_number an_is_number cd_is_number ct_is_number), sl_is_number⟩)
    (c_is_number : PySem.W.codeIn K cd_is_number "is_number" = true)
    (k_is_number : PySem.W.keepIn K (.ref f_is_number) = true)
    (a_check : PySem.W.nsIn K mainGlobals "check" = some (some (.ref f_check)))
    (l_check : K.lookup f_check = some ⟨oc_check, od_check, .func (PySem.W.fnOf "check" "check" (defArgs s_check) (defBody s_check) (defScope s_check) .none kV_check dc_check pm_check an_check cd_check ct_check), sl_check⟩)
    (c_check : PySem.W.codeIn K cd_check "check" = true)
    (k_check : PySem.W.keepIn K (.ref f_check) = true)
    (a_is_text_of : PySem.W.nsIn K mainGlobals "is_text_of" = some (some (.ref f_is_text_of)))
    (l_is_text_of : K.lookup f_is_text_of = some ⟨oc_is_text_of, od_is_text_of, .func (PySem.W.fnOf "is_text_of" "is_text_of" (defArgs s_is_text_of) (defBody s_is_text_of) (defScope s_is_text_of) .none kV_is_text_of dc_is_text_of pm_is_text_of an_is_text_of (.ref cd_is_text_of) ct_is_text_of), sl_is_text_of⟩)
    (c_is_text_of : PySem.W.codeIn K (.ref cd_is_text_of) "is_text_of" = true)
    (k_is_text_of : PySem.W.keepIn K (.ref f_is_text_of) = true)
    (v_is_text_of : K.lookup cd_is_text_of = some ⟨ce_is_text_of, cdd_is_text_of, .fields vs_is_text_of, csl_is_text_of⟩)
    (p_is_text_of : vs_is_text_of[11]? = some (.ref q_is_text_of))
    (e_is_text_of : PySem.W.codeHdIn K cd_is_text_of q_is_text_of = true)
    (n_is_text_of : K.lookup q_is_text_of = none)
    (a_is_word : PySem.W.nsIn K mainGlobals "is_word" = some (some (.ref f_is_word)))
    (l_is_word : K.lookup f_is_word = some ⟨oc_is_word, od_is_word, .func (PySem.W.fnOf "is_word" "is_word" (defArgs s_is_word) (defBody s_is_word) (defScope s_is_word) .none kV_is_word dc_is_word pm_is_word an_is_word cd_is_word ct_is_word), sl_is_word⟩)
    (c_is_word : PySem.W.codeIn K cd_is_word "is_word" = true)
    (k_is_word : PySem.W.keepIn K (.ref f_is_word) = true)
    (a_is_pattern : PySem.W.nsIn K mainGlobals "is_pattern" = some (some (.ref f_is_pattern)))
    (l_is_pattern : K.lookup f_is_pattern = some ⟨oc_is_pattern, od_is_pattern, .func (PySem.W.fnOf "is_pattern" "is_pattern" (defArgs s_is_pattern) (defBody s_is_pattern) (defScope s_is_pattern) .none kV_is_pattern dc_is_pattern pm_is_pattern an_is_pattern cd_is_pattern ct_is_pattern), sl_is_pattern⟩)
    (c_is_pattern : PySem.W.codeIn K cd_is_pattern "is_pattern" = true)
    (k_is_pattern : PySem.W.keepIn K (.ref f_is_pattern) = true)
    (a_is_clue_of : PySem.W.nsIn K mainGlobals "is_clue_of" = some (some (.ref f_is_clue_of)))
    (l_is_clue_of : K.lookup f_is_clue_of = some ⟨oc_is_clue_of, od_is_clue_of, .func (PySem.W.fnOf "is_clue_of" "is_clue_of" (defArgs s_is_clue_of) (defBody s_is_clue_of) (defScope s_is_clue_of) .none kV_is_clue_of dc_is_clue_of pm_is_clue_of an_is_clue_of (.ref cd_is_clue_of) ct_is_clue_of), sl_is_clue_of⟩)
    (c_is_clue_of : PySem.W.codeIn K (.ref cd_is_clue_of) "is_clue_of" = true)
    (k_is_clue_of : PySem.W.keepIn K (.ref f_is_clue_of) = true)
    (v_is_clue_of : K.lookup cd_is_clue_of = some ⟨ce_is_clue_of, cdd_is_clue_of, .fields vs_is_clue_of, csl_is_clue_of⟩)
    (p_is_clue_of : vs_is_clue_of[11]? = some (.ref q_is_clue_of))
    (e_is_clue_of : PySem.W.codeHdIn K cd_is_clue_of q_is_clue_of = true)
    (n_is_clue_of : K.lookup q_is_clue_of = none)
    (a_is_clue : PySem.W.nsIn K mainGlobals "is_clue" = some (some (.ref f_is_clue)))
    (l_is_clue : K.lookup f_is_clue = some ⟨oc_is_clue, od_is_clue, .func (PySem.W.fnOf "is_clue" "is_clue" (defArgs s_is_clue) (defBody s_is_clue) (defScope s_is_clue) .none kV_is_clue dc_is_clue pm_is_clue an_is_clue cd_is_clue ct_is_clue), sl_is_clue⟩)
    (c_is_clue : PySem.W.codeIn K cd_is_clue "is_clue" = true)
    (k_is_clue : PySem.W.keepIn K (.ref f_is_clue) = true)
    (a_clue_words : PySem.W.nsIn K mainGlobals "clue_words" = some (some (.ref f_clue_words)))
    (l_clue_words : K.lookup f_clue_words = some ⟨oc_clue_words, od_clue_words, .func (PySem.W.fnOf "clue_words" "clue_words" (defArgs s_clue_words) (defBody s_clue_words) (defScope s_clue_words) .none kV_clue_words dc_clue_words pm_clue_words an_clue_words cd_clue_words ct_clue_words), sl_clue_words⟩)
    (c_clue_words : PySem.W.codeIn K cd_clue_words "clue_words" = true)
    (k_clue_words : PySem.W.keepIn K (.ref f_clue_words) = true)
    (a_clue_text : PySem.W.nsIn K mainGlobals "clue_text" = some (some (.ref f_clue_text)))
    (l_clue_text : K.lookup f_clue_text = some ⟨oc_clue_text, od_clue_text, .func (PySem.W.fnOf "clue_text" "clue_text" (defArgs s_clue_text) (defBody s_clue_text) (defScope s_clue_text) .none kV_clue_text dc_clue_text pm_clue_text an_clue_text cd_clue_text ct_clue_text), sl_clue_text⟩)
    (c_clue_text : PySem.W.codeIn K cd_clue_text "clue_text" = true)
    (k_clue_text : PySem.W.keepIn K (.ref f_clue_text) = true)
    (a_number_in : PySem.W.nsIn K mainGlobals "number_in" = some (some (.ref f_number_in)))
    (l_number_in : K.lookup f_number_in = some ⟨oc_number_in, od_number_in, .func (PySem.W.fnOf "number_in" "number_in" (defArgs s_number_in) (defBody s_number_in) (defScope s_number_in) .none kV_number_in dc_number_in pm_number_in an_number_in cd_number_in ct_number_in), sl_number_in⟩)
    (c_number_in : PySem.W.codeIn K cd_number_in "number_in" = true)
    (k_number_in : PySem.W.keepIn K (.ref f_number_in) = true)
    (a_read_word : PySem.W.nsIn K mainGlobals "read_word" = some (some (.ref f_read_word)))
    (l_read_word : K.lookup f_read_word = some ⟨oc_read_word, od_read_word, .func (PySem.W.fnOf "read_word" "read_word" (defArgs s_read_word) (defBody s_read_word) (defScope s_read_word) .none kV_read_word dc_read_word pm_read_word an_read_word cd_read_word ct_read_word), sl_read_word⟩)
    (c_read_word : PySem.W.codeIn K cd_read_word "read_word" = true)
    (k_read_word : PySem.W.keepIn K (.ref f_read_word) = true)
    (a_read_clue_from : PySem.W.nsIn K mainGlobals "read_clue_from" = some (some (.ref f_read_clue_from)))
    (l_read_clue_from : K.lookup f_read_clue_from = some ⟨oc_read_clue_from, od_read_clue_from, .func (PySem.W.fnOf "read_clue_from" "read_clue_from" (defArgs s_read_clue_from) (defBody s_read_clue_from) (defScope s_read_clue_from) .none kV_read_clue_from dc_read_clue_from pm_read_clue_from an_read_clue_from cd_read_clue_from ct_read_clue_from), sl_read_clue_from⟩)
    (c_read_clue_from : PySem.W.codeIn K cd_read_clue_from "read_clue_from" = true)
    (k_read_clue_from : PySem.W.keepIn K (.ref f_read_clue_from) = true)
    (a_clue_in : PySem.W.nsIn K mainGlobals "clue_in" = some (some (.ref f_clue_in)))
    (l_clue_in : K.lookup f_clue_in = some ⟨oc_clue_in, od_clue_in, .func (PySem.W.fnOf "clue_in" "clue_in" (defArgs s_clue_in) (defBody s_clue_in) (defScope s_clue_in) .none kV_clue_in dc_clue_in pm_clue_in an_clue_in cd_clue_in ct_clue_in), sl_clue_in⟩)
    (c_clue_in : PySem.W.codeIn K cd_clue_in "clue_in" = true)
    (k_clue_in : PySem.W.keepIn K (.ref f_clue_in) = true)
    (a_read_clue : PySem.W.nsIn K mainGlobals "read_clue" = some (some (.ref f_read_clue)))
    (l_read_clue : K.lookup f_read_clue = some ⟨oc_read_clue, od_read_clue, .func (PySem.W.fnOf "read_clue" "read_clue" (defArgs s_read_clue) (defBody s_read_clue) (defScope s_read_clue) .none kV_read_clue dc_read_clue pm_read_clue an_read_clue cd_read_clue ct_read_clue), sl_read_clue⟩)
    (c_read_clue : PySem.W.codeIn K cd_read_clue "read_clue" = true)
    (k_read_clue : PySem.W.keepIn K (.ref f_read_clue) = true)
    (a__law_taken : PySem.W.nsIn K mainGlobals "_law_taken" = some (some (.ref f__law_taken)))
    (l__law_taken : K.lookup f__law_taken = some ⟨oc__law_taken, od__law_taken, .func (PySem.W.fnOf "_law_taken" "_law_taken" (defArgs s__law_taken) (defBody s__law_taken) (defScope s__law_taken) .none kV__law_taken dc__law_taken pm__law_taken an__law_taken cd__law_taken ct__law_taken), sl__law_taken⟩)
    (c__law_taken : PySem.W.codeIn K cd__law_taken "_law_taken" = true)
    (k__law_taken : PySem.W.keepIn K (.ref f__law_taken) = true)
    (a__law_pick : PySem.W.nsIn K mainGlobals "_law_pick" = some (some (.ref f__law_pick)))
    (l__law_pick : K.lookup f__law_pick = some ⟨oc__law_pick, od__law_pick, .func (PySem.W.fnOf "_law_pick" "_law_pick" (defArgs s__law_pick) (defBody s__law_pick) (defScope s__law_pick) .none kV__law_pick dc__law_pick pm__law_pick an__law_pick cd__law_pick ct__law_pick), sl__law_pick⟩)
    (c__law_pick : PySem.W.codeIn K cd__law_pick "_law_pick" = true)
    (k__law_pick : PySem.W.keepIn K (.ref f__law_pick) = true)
    (a__law_text : PySem.W.nsIn K mainGlobals "_law_text" = some (some (.ref f__law_text)))
    (l__law_text : K.lookup f__law_text = some ⟨oc__law_text, od__law_text, .func (PySem.W.fnOf "_law_text" "_law_text" (defArgs s__law_text) (defBody s__law_text) (defScope s__law_text) .none kV__law_text dc__law_text pm__law_text an__law_text cd__law_text ct__law_text), sl__law_text⟩)
    (c__law_text : PySem.W.codeIn K cd__law_text "_law_text" = true)
    (k__law_text : PySem.W.keepIn K (.ref f__law_text) = true)
    (a__law_clue : PySem.W.nsIn K mainGlobals "_law_clue" = some (some (.ref f__law_clue)))
    (l__law_clue : K.lookup f__law_clue = some ⟨oc__law_clue, od__law_clue, .func (PySem.W.fnOf "_law_clue" "_law_clue" (defArgs s__law_clue) (defBody s__law_clue) (defScope s__law_clue) .none kV__law_clue dc__law_clue pm__law_clue an__law_clue cd__law_clue ct__law_clue), sl__law_clue⟩)
    (c__law_clue : PySem.W.codeIn K cd__law_clue "_law_clue" = true)
    (k__law_clue : PySem.W.keepIn K (.ref f__law_clue) = true)
    (a__law_alike : PySem.W.nsIn K mainGlobals "_law_alike" = some (some (.ref f__law_alike)))
    (l__law_alike : K.lookup f__law_alike = some ⟨oc__law_alike, od__law_alike, .func (PySem.W.fnOf "_law_alike" "_law_alike" (defArgs s__law_alike) (defBody s__law_alike) (defScope s__law_alike) .none kV__law_alike dc__law_alike pm__law_alike an__law_alike cd__law_alike ct__law_alike), sl__law_alike⟩)
    (c__law_alike : PySem.W.codeIn K cd__law_alike "_law_alike" = true)
    (k__law_alike : PySem.W.keepIn K (.ref f__law_alike) = true)
    (a__law_clue_text : PySem.W.nsIn K mainGlobals "_law_clue_text" = some (some (.ref f__law_clue_text)))
    (l__law_clue_text : K.lookup f__law_clue_text = some ⟨oc__law_clue_text, od__law_clue_text, .func (PySem.W.fnOf "_law_clue_text" "_law_clue_text" (defArgs s__law_clue_text) (defBody s__law_clue_text) (defScope s__law_clue_text) .none kV__law_clue_text dc__law_clue_text pm__law_clue_text an__law_clue_text cd__law_clue_text ct__law_clue_text), sl__law_clue_text⟩)
    (c__law_clue_text : PySem.W.codeIn K cd__law_clue_text "_law_clue_text" = true)
    (k__law_clue_text : PySem.W.keepIn K (.ref f__law_clue_text) = true)
    (a__law_no_clue : PySem.W.nsIn K mainGlobals "_law_no_clue" = some (some (.ref f__law_no_clue)))
    (l__law_no_clue : K.lookup f__law_no_clue = some ⟨oc__law_no_clue, od__law_no_clue, .func (PySem.W.fnOf "_law_no_clue" "_law_no_clue" (defArgs s__law_no_clue) (defBody s__law_no_clue) (defScope s__law_no_clue) .none kV__law_no_clue dc__law_no_clue pm__law_no_clue an__law_no_clue cd__law_no_clue ct__law_no_clue), sl__law_no_clue⟩)
    (c__law_no_clue : PySem.W.codeIn K cd__law_no_clue "_law_no_clue" = true)
    (k__law_no_clue : PySem.W.keepIn K (.ref f__law_no_clue) = true)
    (a__law_heard : PySem.W.nsIn K mainGlobals "_law_heard" = some (some (.ref f__law_heard)))
    (l__law_heard : K.lookup f__law_heard = some ⟨oc__law_heard, od__law_heard, .func (PySem.W.fnOf "_law_heard" "_law_heard" (defArgs s__law_heard) (defBody s__law_heard) (defScope s__law_heard) .none kV__law_heard dc__law_heard pm__law_heard an__law_heard cd__law_heard ct__law_heard), sl__law_heard⟩)
    (c__law_heard : PySem.W.codeIn K cd__law_heard "_law_heard" = true)
    (k__law_heard : PySem.W.keepIn K (.ref f__law_heard) = true)
    (a_law : PySem.W.nsIn K mainGlobals "law" = some (some (.ref f_law)))
    (l_law : K.lookup f_law = some ⟨oc_law, od_law, .func (PySem.W.fnOf "law" "law" (defArgs s_law) (defBody s_law) (defScope s_law) .none kV_law dc_law pm_law an_law (.ref cd_law) ct_law), sl_law⟩)
    (c_law : PySem.W.codeIn K (.ref cd_law) "law" = true)
    (k_law : PySem.W.keepIn K (.ref f_law) = true)
    (v_law : K.lookup cd_law = some ⟨ce_law, cdd_law, .fields vs_law, csl_law⟩)
    (p_law : vs_law[11]? = some (.ref q_law))
    (e_law : PySem.W.codeHdIn K cd_law q_law = true)
    (n_law : K.lookup q_law = none)
    (nd : ([q_is_text_of, q_is_clue_of, q_law] : List Addr).Nodup)
    (z_ValueError : PySem.W.nsIn K mainGlobals "ValueError" = some none)
    (z_all : PySem.W.nsIn K mainGlobals "all" = some none)
    (z_bool : PySem.W.nsIn K mainGlobals "bool" = some none)
    (z_dict : PySem.W.nsIn K mainGlobals "dict" = some none)
    (z_int : PySem.W.nsIn K mainGlobals "int" = some none)
    (z_isinstance : PySem.W.nsIn K mainGlobals "isinstance" = some none)
    (z_len : PySem.W.nsIn K mainGlobals "len" = some none)
    (z_list : PySem.W.nsIn K mainGlobals "list" = some none)
    (z_range : PySem.W.nsIn K mainGlobals "range" = some none)
    (z_str : PySem.W.nsIn K mainGlobals "str" = some none)
    (z_super : PySem.W.nsIn K mainGlobals "super" = some none)
    (z_tuple : PySem.W.nsIn K mainGlobals "tuple" = some none)
    (g_ANY : PySem.W.nsIn K mainGlobals "ANY" = some (some (.str (Str.ofString "?") t_ANY)))
    (g_BACK : PySem.W.nsIn K mainGlobals "BACK" = some (some (.str (Str.ofString "back") t_BACK)))
    (g_BEGINS : PySem.W.nsIn K mainGlobals "BEGINS" = some (some (.str (Str.ofString "begins") t_BEGINS)))
    (g_BOTH : PySem.W.nsIn K mainGlobals "BOTH" = some (some (.str (Str.ofString "both") t_BOTH)))
    (g_COUNT : PySem.W.nsIn K mainGlobals "COUNT" = some (some (.str (Str.ofString "count") t_COUNT)))
    (g_DIGITS : PySem.W.nsIn K mainGlobals "DIGITS" = some (some (.str (Str.ofString "0123456789") t_DIGITS)))
    (g_EITHER : PySem.W.nsIn K mainGlobals "EITHER" = some (some (.str (Str.ofString "either") t_EITHER)))
    (g_ENDS : PySem.W.nsIn K mainGlobals "ENDS" = some (some (.str (Str.ofString "ends") t_ENDS)))
    (g_FROM : PySem.W.nsIn K mainGlobals "FROM" = some (some (.str (Str.ofString "from") t_FROM)))
    (g_HOLDS : PySem.W.nsIn K mainGlobals "HOLDS" = some (some (.str (Str.ofString "holds") t_HOLDS)))
    (g_LEAST_LETTERS : PySem.W.nsIn K mainGlobals "LEAST_LETTERS" = some (some (.int 2 t_LEAST_LETTERS)))
    (g_LETTERS : PySem.W.nsIn K mainGlobals "LETTERS" = some (some (.str (Str.ofString "abcdefghijklmnopqrstuvwxyz") t_LETTERS)))
    (g_LIKE : PySem.W.nsIn K mainGlobals "LIKE" = some (some (.str (Str.ofString "like") t_LIKE)))
    (g_MOST_DEPTH : PySem.W.nsIn K mainGlobals "MOST_DEPTH" = some (some (.int 4 t_MOST_DEPTH)))
    (g_MOST_LETTERS : PySem.W.nsIn K mainGlobals "MOST_LETTERS" = some (some (.int 4 t_MOST_LETTERS)))
    (g_NOT : PySem.W.nsIn K mainGlobals "NOT" = some (some (.str (Str.ofString "not") t_NOT)))
    (g_SIZES : PySem.W.nsIn K mainGlobals "SIZES" = some (some (.ref a_SIZES)))
    (dl_SIZES : K.lookup a_SIZES = some ⟨.type "dict", none, .dict es_SIZES en_SIZES, #[]⟩)
    (dk_SIZES : PySem.W.KeysLit w.params es_SIZES.toList)
    (dw_SIZES : (a_SIZES == sysModules) = false)
    (dt_SIZES : tabE es_SIZES.toList = some t_SIZES)
    (a_BadArgument : PySem.W.nsIn K mainGlobals "BadArgument" = some (some (.ref C_BadArgument)))
    (xL_BadArgument : K.lookup C_BadArgument = some (excClassObj nm_BadArgument q_BadArgument C_BadArgument N_BadArgument bs_BadArgument bm_BadArgument true sn_BadArgument sb_BadArgument ab_BadArgument col_BadArgument dd_BadArgument m0_BadArgument m1_BadArgument m2_BadArgument m3_BadArgument m5_BadArgument "ValueError.__new__"))
    (rV_BadArgument : PySem.HandSPX.refsVE bm_BadArgument = true)
    (sa_BadArgument : PySem.W.findIn K (.ref C_BadArgument) "__setattr__" = some (some (.builtin "object.__setattr__")))
    (eC_BadArgument : PySem.W.subIn K (.ref C_BadArgument) (.type "BaseException") = some true)
    (tC_BadArgument : PySem.W.typeIn K (.ref C_BadArgument) = some (.type "type"))
    (kC_BadArgument : PySem.W.keepIn K (.ref C_BadArgument) = true)
    (i_BadArgument : PySem.W.findIn K (.ref C_BadArgument) "__init__" = some (some (.ref fI_BadArgument)))
    (iL_BadArgument : K.lookup fI_BadArgument = some ⟨oc_BadArgument, od_BadArgument, .func (PySem.W.ksFn "__init__" "BadArgument.__init__" (defArgs si_BadArgument) (defBody si_BadArgument) (defScope si_BadArgument) .none kV_BadArgument dc_BadArgument pm_BadArgument an_BadArgument (.ref cda_BadArgument) ct_BadArgument cc_BadArgument), sl_BadArgument⟩)
    (cd_BadArgument : PySem.W.codeIn K (.ref cda_BadArgument) "BadArgument.__init__" = true)
    (cL_BadArgument : K.lookup cda_BadArgument = some ⟨ccl_BadArgument, cdd_BadArgument, .fields vs_BadArgument, ccs_BadArgument⟩)
    (cF_BadArgument : vs_BadArgument[2]? = some (.str file_BadArgument tf_BadArgument))
    (fE_BadArgument : ((PySem.W.OpenLaw.prog PySem.Challenge.rw_crossfills_k16_clue_texts).main.file == file_BadArgument) = true)
    (cC_BadArgument : K.lookup cc_BadArgument = some ⟨cl_BadArgument, cld_BadArgument, .cell (some (.ref C_BadArgument)), csl_BadArgument⟩)
    (sub_BadArgument : PySem.W.mroIn K C_BadArgument (.ref C_BadArgument) = some true)
    (sup_BadArgument : PySem.W.ks_superIn K C_BadArgument C_BadArgument "__init__" = some (some (.builtin "ValueError.__init__")))
    (ve_BadArgument : PySem.W.subIn K (.ref C_BadArgument) (.type "ValueError") = some true)
    (et_BadArgument : PySem.W.typeIn K (.ref fI_BadArgument) = some (.type "function"))
    (ga_BadArgument : PySem.W.findIn K (.ref C_BadArgument) "__getattribute__" = some (some (.builtin "BaseException.__getattribute__")))
    (gg_BadArgument : PySem.W.findIn K (.ref C_BadArgument) "__getattr__" = some none)
    (hd_BadArgument : PySem.W.hasDictIn K C_BadArgument = true)
    (ha_BadArgument : PySem.W.findIn K (.ref C_BadArgument) "__class__" = some (some (.builtin "object.__class__")))
    (hm_BadArgument : PySem.W.mroIn K C_BadArgument (.type "object") = some true)
    (no_BadArgument : PySem.W.findIn K (.ref C_BadArgument) "name" = some none)
    (kV_ : PySem.W.kitOne K (.ref C_BadArgument) (.type "ValueError") = some true)
    (x_BadArgument : PySem.W.exmOne K (.ref C_BadArgument) (.ref C_BadArgument) = some true)
    (opq : PySem.W.nsIn K cStatics "thirdparty.any" = some none)
    (hn : PySem.W.specialIn K (.builtin "object.__class__") "__get__" = some (some (.builtin "getset_descriptor.__get__")))
    (ht : PySem.W.takesIn K (.builtin "object.__class__") = some true)
    (tp : ((PySem.W.OpenLaw.prog PySem.Challenge.rw_crossfills_k16_clue_texts).main.scope.names.lookup ("super" : Str)).isSome = false)
    (a_CrossError : PySem.W.nsIn K mainGlobals "CrossError" = some (some (.ref C_CrossError)))
    (a_Unfilled : PySem.W.nsIn K mainGlobals "Unfilled" = some (some (.ref C_Unfilled)))
    (a_Refused : PySem.W.nsIn K mainGlobals "Refused" = some (some (.ref C_Refused)))
    (a_Unread : PySem.W.nsIn K mainGlobals "Unread" = some (some (.ref C_Unread)))
    (kE_ : PySem.W.kitOne K (.ref C_BadArgument) (.ref C_CrossError) = some true)
    (main : ∀ ns : List Int, ns.length ≤ 63 → (∀ z ∈ ns, Builtin.Int.intBits z ≤ 1048576) → ∃ h', m_law [.lst (ns.map D.int)] [] = .ok (.bl true) h') :
    LamX.LawAtS PySem.Challenge.rw_crossfills_k16_clue_texts w K (L2.CX (PySem.W.OpenLaw.prog PySem.Challenge.rw_crossfills_k16_clue_texts) w) 62 63 "script" mg fa h := by
  cases (PySem.W.mg_of X G a_law).symm.trans hfa
  have D_is_number := dn_mk (st := s_is_number) l_is_number c_is_number k_is_number
  have b_is_number := D_is_number.fn.binds (ps := ["value", "low", "high"]) fun _ _ _ _ _ _ us hl => match us, hl with | [_, _, _], _ => rfl
  have D_check := dn_mk (st := s_check) l_check c_check k_check
  have b_check := D_check.fn.binds (ps := ["is_right", "name"]) fun _ _ _ _ _ _ us hl => match us, hl with | [_, _], _ => rfl
  have D_is_text_of := dn_mk (st := s_is_text_of) l_is_text_of c_is_text_of k_is_text_of
  have b_is_text_of := D_is_text_of.fn.binds (ps := ["value", "least", "most", "signs"]) fun _ _ _ _ _ _ us hl => match us, hl with | [_, _, _, _], _ => rfl
  have D_is_word := dn_mk (st := s_is_word) l_is_word c_is_word k_is_word
  have b_is_word := D_is_word.fn.binds (ps := ["value"]) fun _ _ _ _ _ _ us hl => match us, hl with | [_], _ => rfl
  have D_is_pattern := dn_mk (st := s_is_pattern) l_is_pattern c_is_pattern k_is_pattern
  have b_is_pattern := D_is_pattern.fn.binds (ps := ["value"]) fun _ _ _ _ _ _ us hl => match us, hl with | [_], _ => rfl
  have D_is_clue_of := dn_mk (st := s_is_clue_of) l_is_clue_of c_is_clue_of k_is_clue_of
  have b_is_clue_of := D_is_clue_of.fn.binds (ps := ["value", "depth"]) fun _ _ _ _ _ _ us hl => match us, hl with | [_, _], _ => rfl
  have D_is_clue := dn_mk (st := s_is_clue) l_is_clue c_is_clue k_is_clue
  have b_is_clue := D_is_clue.fn.binds (ps := ["value"]) fun _ _ _ _ _ _ us hl => match us, hl with | [_], _ => rfl
  have D_clue_words := dn_mk (st := s_clue_words) l_clue_words c_clue_words k_clue_words
  have b_clue_words := D_clue_words.fn.binds (ps := ["clue"]) fun _ _ _ _ _ _ us hl => match us, hl with | [_], _ => rfl
  have D_clue_text := dn_mk (st := s_clue_text) l_clue_text c_clue_text k_clue_text
  have b_clue_text := D_clue_text.fn.binds (ps := ["clue"]) fun _ _ _ _ _ _ us hl => match us, hl with | [_], _ => rfl
  have D_number_in := dn_mk (st := s_number_in) l_number_in c_number_in k_number_in
  have b_number_in := D_number_in.fn.binds (ps := ["word", "least", "most"]) fun _ _ _ _ _ _ us hl => match us, hl with | [_, _, _], _ => rfl
  have D_read_word := dn_mk (st := s_read_word) l_read_word c_read_word k_read_word
  have b_read_word := D_read_word.fn.binds (ps := ["kind", "words"]) fun _ _ _ _ _ _ us hl => match us, hl with | [_, _], _ => rfl
  have D_read_clue_from := dn_mk (st := s_read_clue_from) l_read_clue_from c_read_clue_from k_read_clue_from
  have b_read_clue_from := D_read_clue_from.fn.binds (ps := ["words", "depth"]) fun _ _ _ _ _ _ us hl => match us, hl with | [_, _], _ => rfl
  have D_clue_in := dn_mk (st := s_clue_in) l_clue_in c_clue_in k_clue_in
  have b_clue_in := D_clue_in.fn.binds (ps := ["words"]) fun _ _ _ _ _ _ us hl => match us, hl with | [_], _ => rfl
  have D_read_clue := dn_mk (st := s_read_clue) l_read_clue c_read_clue k_read_clue
  have b_read_clue := D_read_clue.fn.binds (ps := ["text"]) fun _ _ _ _ _ _ us hl => match us, hl with | [_], _ => rfl
  have D__law_taken := dn_mk (st := s__law_taken) l__law_taken c__law_taken k__law_taken
  have b__law_taken := D__law_taken.fn.binds (ps := ["row", "many"]) fun _ _ _ _ _ _ us hl => match us, hl with | [_, _], _ => rfl
  have D__law_pick := dn_mk (st := s__law_pick) l__law_pick c__law_pick k__law_pick
  have b__law_pick := D__law_pick.fn.binds (ps := ["row", "some"]) fun _ _ _ _ _ _ us hl => match us, hl with | [_, _], _ => rfl
  have D__law_text := dn_mk (st := s__law_text) l__law_text c__law_text k__law_text
  have b__law_text := D__law_text.fn.binds (ps := ["row", "least", "most", "signs"]) fun _ _ _ _ _ _ us hl => match us, hl with | [_, _, _, _], _ => rfl
  have D__law_clue := dn_mk (st := s__law_clue) l__law_clue c__law_clue k__law_clue
  have b__law_clue := D__law_clue.fn.binds (ps := ["row", "depth"]) fun _ _ _ _ _ _ us hl => match us, hl with | [_, _], _ => rfl
  have D__law_alike := dn_mk (st := s__law_alike) l__law_alike c__law_alike k__law_alike
  have b__law_alike := D__law_alike.fn.binds (ps := ["found", "due"]) fun _ _ _ _ _ _ us hl => match us, hl with | [_, _], _ => rfl
  have D__law_clue_text := dn_mk (st := s__law_clue_text) l__law_clue_text c__law_clue_text k__law_clue_text
  have b__law_clue_text := D__law_clue_text.fn.binds (ps := ["clue"]) fun _ _ _ _ _ _ us hl => match us, hl with | [_], _ => rfl
  have D__law_no_clue := dn_mk (st := s__law_no_clue) l__law_no_clue c__law_no_clue k__law_no_clue
  have b__law_no_clue := D__law_no_clue.fn.binds (ps := ["row", "text"]) fun _ _ _ _ _ _ us hl => match us, hl with | [_, _], _ => rfl
  have D__law_heard := dn_mk (st := s__law_heard) l__law_heard c__law_heard k__law_heard
  have b__law_heard := D__law_heard.fn.binds (ps := ["ask"]) fun _ _ _ _ _ _ us hl => match us, hl with | [_], _ => rfl
  have D_law := dn_mk (st := s_law) l_law c_law k_law
  have b_law := D_law.fn.binds (ps := ["script"]) fun _ _ _ _ _ _ us hl => match us, hl with | [_], _ => rfl
  have O_BadArgument : OexC K C_BadArgument := ⟨⟨nm_BadArgument, q_BadArgument, N_BadArgument, bs_BadArgument, bm_BadArgument, sn_BadArgument, sb_BadArgument, ab_BadArgument, col_BadArgument, dd_BadArgument, m0_BadArgument, m1_BadArgument, m2_BadArgument, m3_BadArgument, m5_BadArgument, xL_BadArgument, rV_BadArgument⟩, sa_BadArgument, eC_BadArgument, tC_BadArgument, kC_BadArgument⟩
  have S_BadArgument : SupI (PySem.W.OpenLaw.prog PySem.Challenge.rw_crossfills_k16_clue_texts) K C_BadArgument fI_BadArgument cc_BadArgument cda_BadArgument "__init__" "BadArgument.__init__" si_BadArgument _ := ⟨O_BadArgument, ⟨_, _, _, _, _, _, _, _, rfl, iL_BadArgument⟩, cd_BadArgument, ⟨_, _, _, _, _, _, cL_BadArgument, cF_BadArgument, fE_BadArgument⟩, ⟨_, _, _, cC_BadArgument⟩, sub_BadArgument, sup_BadArgument, ve_BadArgument, opq, tp⟩
  refine ⟨(PySem.W.fnOf "law" "law" (defArgs s_law) (defBody s_law) (defScope s_law) .none kV_law dc_law pm_law an_law (.ref cd_law) ct_law), [(cd_is_text_of, q_is_text_of), (cd_is_clue_of, q_is_clue_of), (cd_law, q_law)], spM K (⟨fun x => if x = "BadArgument" then some C_BadArgument else none, [(q_is_text_of, ("is_text_of" : Str) ++ ".<locals>." ++ "<genexpr>"), (q_is_clue_of, ("is_clue_of" : Str) ++ ".<locals>." ++ "<genexpr>"), (q_law, ("law" : Str) ++ ".<locals>." ++ "<lambda>")]⟩ : Gd) m_law, ?t1, ?t2, ?t3, fun s u => .of_eq rfl, fun H a ns hl hb hT hS => ?_, fun base Xb Gb TB => ?_⟩
  case t1 =>
    exact fun p hp => by
      simp only [List.mem_cons, List.not_mem_nil, or_false] at hp
      rcases hp with rfl | rfl | rfl
      · exact tab_emp X T (by simp) (PySem.W.mg_of X G a_is_text_of) l_is_text_of rfl e_is_text_of
      · exact tab_emp X T (by simp) (PySem.W.mg_of X G a_is_clue_of) l_is_clue_of rfl e_is_clue_of
      · exact tab_emp X T (by simp) (PySem.W.mg_of X G a_law) l_law rfl e_law
  case t2 =>
    exact fun p hp => by
      simp only [List.mem_cons, List.not_mem_nil, or_false] at hp
      rcases hp with rfl | rfl | rfl
      · exact n_is_text_of
      · exact n_is_clue_of
      · exact n_law
  case t3 =>
    exact fun p hp => by
      simp only [List.mem_cons, List.not_mem_nil, or_false] at hp
      rcases hp with rfl | rfl | rfl
      · exact PySem.W.codeHd_of_K X e_is_text_of
      · exact PySem.W.codeHd_of_K X e_is_clue_of
      · exact PySem.W.codeHd_of_K X e_law
  · obtain ⟨h', e⟩ := main ns hl hb
    refine law_start (fun p hp => ?_) hS e
    simp only [List.mem_cons, List.not_mem_nil, or_false] at hp
    rcases hp with rfl | rfl | rfl
    · exact hT (cd_is_text_of, q_is_text_of) (.head _)
    · exact hT (cd_is_clue_of, q_is_clue_of) (.tail _ (.head _))
    · exact hT (cd_law, q_law) (.tail _ (.tail _ (.head _)))
  · exact ok_law (P := PySem.W.OpenLaw.prog PySem.Challenge.rw_crossfills_k16_clue_texts) (w := w) (K := K) (mg := mg) (base := base) (gd := (⟨fun x => if x = "BadArgument" then some C_BadArgument else none, [(q_is_text_of, ("is_text_of" : Str) ++ ".<locals>." ++ "<genexpr>"), (q_is_clue_of, ("is_clue_of" : Str) ++ ".<locals>." ++ "<genexpr>"), (q_law, ("law" : Str) ++ ".<locals>." ++ "<lambda>")]⟩ : Gd)) {
      f_is_number := f_is_number
      d_is_number := _
      v_is_number := cd_is_number
      n_is_number := D_is_number
      m_is_number := PySem.W.mg_of X G a_is_number
      b_is_number := b_is_number
      f_check := f_check
      d_check := _
      v_check := cd_check
      n_check := D_check
      m_check := PySem.W.mg_of X G a_check
      b_check := b_check
      f_is_text_of := f_is_text_of
      d_is_text_of := _
      c_is_text_of := cd_is_text_of
      q_is_text_of := q_is_text_of
      n_is_text_of := D_is_text_of
      m_is_text_of := PySem.W.mg_of X G a_is_text_of
      b_is_text_of := b_is_text_of
      x_is_text_of := TB (cd_is_text_of, q_is_text_of) (.head _)
      y_is_text_of := (.head _)
      o_is_text_of := tab_one (T := [(q_is_text_of, ("is_text_of" : Str) ++ ".<locals>." ++ "<genexpr>"), (q_is_clue_of, ("is_clue_of" : Str) ++ ".<locals>." ++ "<genexpr>"), (q_law, ("law" : Str) ++ ".<locals>." ++ "<lambda>")]) nd (.head _)
      f_is_word := f_is_word
      d_is_word := _
      v_is_word := cd_is_word
      n_is_word := D_is_word
      m_is_word := PySem.W.mg_of X G a_is_word
      b_is_word := b_is_word
      f_is_pattern := f_is_pattern
      d_is_pattern := _
      v_is_pattern := cd_is_pattern
      n_is_pattern := D_is_pattern
      m_is_pattern := PySem.W.mg_of X G a_is_pattern
      b_is_pattern := b_is_pattern
      f_is_clue_of := f_is_clue_of
      d_is_clue_of := _
      c_is_clue_of := cd_is_clue_of
      q_is_clue_of := q_is_clue_of
      n_is_clue_of := D_is_clue_of
      m_is_clue_of := PySem.W.mg_of X G a_is_clue_of
      b_is_clue_of := b_is_clue_of
      x_is_clue_of := TB (cd_is_clue_of, q_is_clue_of) (.tail _ (.head _))
      y_is_clue_of := (.tail _ (.head _))
      o_is_clue_of := tab_one (T := [(q_is_text_of, ("is_text_of" : Str) ++ ".<locals>." ++ "<genexpr>"), (q_is_clue_of, ("is_clue_of" : Str) ++ ".<locals>." ++ "<genexpr>"), (q_law, ("law" : Str) ++ ".<locals>." ++ "<lambda>")]) nd (.tail _ (.head _))
      f_is_clue := f_is_clue
      d_is_clue := _
      v_is_clue := cd_is_clue
      n_is_clue := D_is_clue
      m_is_clue := PySem.W.mg_of X G a_is_clue
      b_is_clue := b_is_clue
      f_clue_words := f_clue_words
      d_clue_words := _
      v_clue_words := cd_clue_words
      n_clue_words := D_clue_words
      m_clue_words := PySem.W.mg_of X G a_clue_words
      b_clue_words := b_clue_words
      f_clue_text := f_clue_text
      d_clue_text := _
      v_clue_text := cd_clue_text
      n_clue_text := D_clue_text
      m_clue_text := PySem.W.mg_of X G a_clue_text
      b_clue_text := b_clue_text
      f_number_in := f_number_in
      d_number_in := _
      v_number_in := cd_number_in
      n_number_in := D_number_in
      m_number_in := PySem.W.mg_of X G a_number_in
      b_number_in := b_number_in
      f_read_word := f_read_word
      d_read_word := _
      v_read_word := cd_read_word
      n_read_word := D_read_word
      m_read_word := PySem.W.mg_of X G a_read_word
      b_read_word := b_read_word
      f_read_clue_from := f_read_clue_from
      d_read_clue_from := _
      v_read_clue_from := cd_read_clue_from
      n_read_clue_from := D_read_clue_from
      m_read_clue_from := PySem.W.mg_of X G a_read_clue_from
      b_read_clue_from := b_read_clue_from
      f_clue_in := f_clue_in
      d_clue_in := _
      v_clue_in := cd_clue_in
      n_clue_in := D_clue_in
      m_clue_in := PySem.W.mg_of X G a_clue_in
      b_clue_in := b_clue_in
      f_read_clue := f_read_clue
      d_read_clue := _
      v_read_clue := cd_read_clue
      n_read_clue := D_read_clue
      m_read_clue := PySem.W.mg_of X G a_read_clue
      b_read_clue := b_read_clue
      f__law_taken := f__law_taken
      d__law_taken := _
      v__law_taken := cd__law_taken
      n__law_taken := D__law_taken
      m__law_taken := PySem.W.mg_of X G a__law_taken
      b__law_taken := b__law_taken
      f__law_pick := f__law_pick
      d__law_pick := _
      v__law_pick := cd__law_pick
      n__law_pick := D__law_pick
      m__law_pick := PySem.W.mg_of X G a__law_pick
      b__law_pick := b__law_pick
      f__law_text := f__law_text
      d__law_text := _
      v__law_text := cd__law_text
      n__law_text := D__law_text
      m__law_text := PySem.W.mg_of X G a__law_text
      b__law_text := b__law_text
      f__law_clue := f__law_clue
      d__law_clue := _
      v__law_clue := cd__law_clue
      n__law_clue := D__law_clue
      m__law_clue := PySem.W.mg_of X G a__law_clue
      b__law_clue := b__law_clue
      f__law_alike := f__law_alike
      d__law_alike := _
      v__law_alike := cd__law_alike
      n__law_alike := D__law_alike
      m__law_alike := PySem.W.mg_of X G a__law_alike
      b__law_alike := b__law_alike
      f__law_clue_text := f__law_clue_text
      d__law_clue_text := _
      v__law_clue_text := cd__law_clue_text
      n__law_clue_text := D__law_clue_text
      m__law_clue_text := PySem.W.mg_of X G a__law_clue_text
      b__law_clue_text := b__law_clue_text
      f__law_no_clue := f__law_no_clue
      d__law_no_clue := _
      v__law_no_clue := cd__law_no_clue
      n__law_no_clue := D__law_no_clue
      m__law_no_clue := PySem.W.mg_of X G a__law_no_clue
      b__law_no_clue := b__law_no_clue
      f__law_heard := f__law_heard
      d__law_heard := _
      v__law_heard := cd__law_heard
      n__law_heard := D__law_heard
      m__law_heard := PySem.W.mg_of X G a__law_heard
      b__law_heard := b__law_heard
      f_law := fa
      d_law := _
      c_law := cd_law
      q_law := q_law
      n_law := D_law
      m_law := PySem.W.mg_of X G a_law
      b_law := b_law
      x_law := TB (cd_law, q_law) (.tail _ (.tail _ (.head _)))
      l_law := (.tail _ (.tail _ (.head _)))
      u_law := tab_one (T := [(q_is_text_of, ("is_text_of" : Str) ++ ".<locals>." ++ "<genexpr>"), (q_is_clue_of, ("is_clue_of" : Str) ++ ".<locals>." ++ "<genexpr>"), (q_law, ("law" : Str) ++ ".<locals>." ++ "<lambda>")]) nd (.tail _ (.tail _ (.head _)))
      z_ValueError := PySem.W.mg_none_of X G z_ValueError
      z_all := PySem.W.mg_none_of X G z_all
      z_bool := PySem.W.mg_none_of X G z_bool
      z_dict := PySem.W.mg_none_of X G z_dict
      z_int := PySem.W.mg_none_of X G z_int
      z_isinstance := PySem.W.mg_none_of X G z_isinstance
      z_len := PySem.W.mg_none_of X G z_len
      z_list := PySem.W.mg_none_of X G z_list
      z_range := PySem.W.mg_none_of X G z_range
      z_str := PySem.W.mg_none_of X G z_str
      z_tuple := PySem.W.mg_none_of X G z_tuple
      k_ANY := ⟨_, PySem.W.mg_of X G g_ANY⟩
      k_BACK := ⟨_, PySem.W.mg_of X G g_BACK⟩
      k_BEGINS := ⟨_, PySem.W.mg_of X G g_BEGINS⟩
      k_BOTH := ⟨_, PySem.W.mg_of X G g_BOTH⟩
      k_COUNT := ⟨_, PySem.W.mg_of X G g_COUNT⟩
      k_DIGITS := ⟨_, PySem.W.mg_of X G g_DIGITS⟩
      k_EITHER := ⟨_, PySem.W.mg_of X G g_EITHER⟩
      k_ENDS := ⟨_, PySem.W.mg_of X G g_ENDS⟩
      k_FROM := ⟨_, PySem.W.mg_of X G g_FROM⟩
      k_HOLDS := ⟨_, PySem.W.mg_of X G g_HOLDS⟩
      k_LEAST_LETTERS := ⟨_, PySem.W.mg_of X G g_LEAST_LETTERS⟩
      k_LETTERS := ⟨_, PySem.W.mg_of X G g_LETTERS⟩
      k_LIKE := ⟨_, PySem.W.mg_of X G g_LIKE⟩
      k_MOST_DEPTH := ⟨_, PySem.W.mg_of X G g_MOST_DEPTH⟩
      k_MOST_LETTERS := ⟨_, PySem.W.mg_of X G g_MOST_LETTERS⟩
      k_NOT := ⟨_, PySem.W.mg_of X G g_NOT⟩
      a_SIZES := a_SIZES
      k_SIZES := PySem.W.mg_of X G g_SIZES
      t_SIZES := ⟨_, _, ⟨dl_SIZES, dk_SIZES, dw_SIZES⟩, dt_SIZES⟩
      C_CrossError := C_CrossError
      m_CrossError := PySem.W.mg_of X G a_CrossError
      C_Unfilled := C_Unfilled
      m_Unfilled := PySem.W.mg_of X G a_Unfilled
      C_Refused := C_Refused
      m_Refused := PySem.W.mg_of X G a_Refused
      C_Unread := C_Unread
      m_Unread := PySem.W.mg_of X G a_Unread
      C_BadArgument := C_BadArgument
      fI_BadArgument := fI_BadArgument
      dI_BadArgument := _
      m_BadArgument := PySem.W.mg_of X G a_BadArgument
      e_BadArgument := O_BadArgument
      ei_BadArgument := i_BadArgument
      et_BadArgument := et_BadArgument
      ef_BadArgument := oi_BadArgument S_BadArgument (PySem.W.mg_none_of X G z_super) no_BadArgument
      eb_BadArgument := .all fun us hl => match us, hl with | [_, _], _ => rfl
      cl_BadArgument := rfl
      h_xf := ⟨ga_BadArgument, gg_BadArgument, eC_BadArgument, hd_BadArgument⟩
      h_ex := ⟨ga_BadArgument, gg_BadArgument, eC_BadArgument, hd_BadArgument, ha_BadArgument, hn, ht, hm_BadArgument⟩
      h_no := no_BadArgument
      h_kE := kE_
      h_kV := kV_
      h_x := x_BadArgument }
end Cf
set_option Elab.async false
set_option linter.all false
set_option maxRecDepth 100000
set_option pp.maxSteps 300
open PySem PySem.W PyProof.Rows
set_option maxRecDepth 100000 in
set_option maxHeartbeats 0 in
theorem PySem.Challenge.cw_crossfills_k16_clue_texts_holds : PySem.Challenge.rw_crossfills_k16_clue_texts.Holds := by
  w_on; o_law; k_head; (case hw => w_witness2)
  k_fill
  refine Cf.walk_all (l := PySem.Challenge.rw_crossfills_k16_clue_texts) (n := 63) (k := 62) (x := "script") (CX := fun w => L2.CX (PySem.W.OpenLaw.prog PySem.Challenge.rw_crossfills_k16_clue_texts) w) ["is_text_of", "is_clue_of", "law"] rfl (by decide) rfl ⟨rfl, by decide, by decide⟩ (by kernel_rfl) (fun w h Y => PySem.W.km_in_of Y) ?F (fun _ _ _ _ _ z => ?G)
  case G =>
    obtain ⟨_, _, _, _, _, _, _, _, _, _, _, _, z⟩ := z
    exact z
  case F =>
    intro w mg fa h KX G T hmg
    refine' Cf.law_at KX G T hmg ?a_is_number ?l_is_number ?c_is_number ?k_is_number ?a_check ?l_check ?c_check ?k_check ?a_is_text_of ?l_is_text_of ?c_is_text_of ?k_is_text_of ?v_is_text_of ?p_is_text_of ?e_is_text_of ?n_is_text_of ?a_is_word ?l_is_word ?c_is_word ?k_is_word ?a_is_pattern ?l_is_pattern ?c_is_pattern ?k_is_pattern ?a_is_clue_of ?l_is_clue_of ?c_is_clue_of ?k_is_clue_of ?v_is_clue_of ?p_is_clue_of ?e_is_clue_of ?n_is_clue_of ?a_is_clue ?l_is_clue ?c_is_clue ?k_is_clue ?a_clue_words ?l_clue_words ?c_clue_words ?k_clue_words ?a_clue_text ?l_clue_text ?c_clue_text ?k_clue_text ?a_number_in ?l_number_in ?c_number_in ?k_number_in ?a_read_word ?l_read_word ?c_read_word ?k_read_word ?a_read_clue_from ?l_read_clue_from ?c_read_clue_from ?k_read_clue_from ?a_clue_in ?l_clue_in ?c_clue_in ?k_clue_in ?a_read_clue ?l_read_clue ?c_read_clue ?k_read_clue ?a__law_taken ?l__law_taken ?c__law_taken ?k__law_taken ?a__law_pick ?l__law_pick ?c__law_pick ?k__law_pick ?a__law_text ?l__law_text ?c__law_text ?k__law_text ?a__law_clue ?l__law_clue ?c__law_clue ?k__law_clue ?a__law_alike ?l__law_alike ?c__law_alike ?k__law_alike ?a__law_clue_text ?l__law_clue_text ?c__law_clue_text ?k__law_clue_text ?a__law_no_clue ?l__law_no_clue ?c__law_no_clue ?k__law_no_clue ?a__law_heard ?l__law_heard ?c__law_heard ?k__law_heard ?a_law ?l_law ?c_law ?k_law ?v_law ?p_law ?e_law ?n_law ?nd ?z_ValueError ?z_all ?z_bool ?z_dict ?z_int ?z_isinstance ?z_len ?z_list ?z_range ?z_str ?z_super ?z_tuple ?g_ANY ?g_BACK ?g_BEGINS ?g_BOTH ?g_COUNT ?g_DIGITS ?g_EITHER ?g_ENDS ?g_FROM ?g_HOLDS ?g_LEAST_LETTERS ?g_LETTERS ?g_LIKE ?g_MOST_DEPTH ?g_MOST_LETTERS ?g_NOT ?g_SIZES ?dl_SIZES ?dk_SIZES ?dw_SIZES ?dt_SIZES ?a_BadArgument ?xL_BadArgument ?rV_BadArgument ?sa_BadArgument ?eC_BadArgument ?tC_BadArgument ?kC_BadArgument ?i_BadArgument ?iL_BadArgument ?cd_BadArgument ?cL_BadArgument ?cF_BadArgument ?fE_BadArgument ?cC_BadArgument ?sub_BadArgument ?sup_BadArgument ?ve_BadArgument ?et_BadArgument ?ga_BadArgument ?gg_BadArgument ?hd_BadArgument ?ha_BadArgument ?hm_BadArgument ?no_BadArgument ?kV_ ?x_BadArgument ?opq ?hn ?ht ?tp ?a_CrossError ?a_Unfilled ?a_Refused ?a_Unread ?kE_ Cf.main
    (case a_is_number => k_is)
    (case l_is_number => k_is)
    (case c_is_number => k_is)
    (case k_is_number => k_is)
    (case a_check => k_is)
    (case l_check => k_is)
    (case c_check => k_is)
    (case k_check => k_is)
    (case a_is_text_of => k_is)
    (case l_is_text_of => k_is)
    (case c_is_text_of => k_is)
    (case k_is_text_of => k_is)
    (case v_is_text_of => k_is)
    (case p_is_text_of => rfl)
    (case e_is_text_of => kernel_rfl)
    (case n_is_text_of => kernel_rfl)
    (case a_is_word => k_is)
    (case l_is_word => k_is)
    (case c_is_word => k_is)
    (case k_is_word => k_is)
    (case a_is_pattern => k_is)
    (case l_is_pattern => k_is)
    (case c_is_pattern => k_is)
    (case k_is_pattern => k_is)
    (case a_is_clue_of => k_is)
    (case l_is_clue_of => k_is)
    (case c_is_clue_of => k_is)
    (case k_is_clue_of => k_is)
    (case v_is_clue_of => k_is)
    (case p_is_clue_of => rfl)
    (case e_is_clue_of => kernel_rfl)
    (case n_is_clue_of => kernel_rfl)
    (case a_is_clue => k_is)
    (case l_is_clue => k_is)
    (case c_is_clue => k_is)
    (case k_is_clue => k_is)
    (case a_clue_words => k_is)
    (case l_clue_words => k_is)
    (case c_clue_words => k_is)
    (case k_clue_words => k_is)
    (case a_clue_text => k_is)
    (case l_clue_text => k_is)
    (case c_clue_text => k_is)
    (case k_clue_text => k_is)
    (case a_number_in => k_is)
    (case l_number_in => k_is)
    (case c_number_in => k_is)
    (case k_number_in => k_is)
    (case a_read_word => k_is)
    (case l_read_word => k_is)
    (case c_read_word => k_is)
    (case k_read_word => k_is)
    (case a_read_clue_from => k_is)
    (case l_read_clue_from => k_is)
    (case c_read_clue_from => k_is)
    (case k_read_clue_from => k_is)
    (case a_clue_in => k_is)
    (case l_clue_in => k_is)
    (case c_clue_in => k_is)
    (case k_clue_in => k_is)
    (case a_read_clue => k_is)
    (case l_read_clue => k_is)
    (case c_read_clue => k_is)
    (case k_read_clue => k_is)
    (case a__law_taken => k_is)
    (case l__law_taken => k_is)
    (case c__law_taken => k_is)
    (case k__law_taken => k_is)
    (case a__law_pick => k_is)
    (case l__law_pick => k_is)
    (case c__law_pick => k_is)
    (case k__law_pick => k_is)
    (case a__law_text => k_is)
    (case l__law_text => k_is)
    (case c__law_text => k_is)
    (case k__law_text => k_is)
    (case a__law_clue => k_is)
    (case l__law_clue => k_is)
    (case c__law_clue => k_is)
    (case k__law_clue => k_is)
    (case a__law_alike => k_is)
    (case l__law_alike => k_is)
    (case c__law_alike => k_is)
    (case k__law_alike => k_is)
    (case a__law_clue_text => k_is)
    (case l__law_clue_text => k_is)
    (case c__law_clue_text => k_is)
    (case k__law_clue_text => k_is)
    (case a__law_no_clue => k_is)
    (case l__law_no_clue => k_is)
    (case c__law_no_clue => k_is)
    (case k__law_no_clue => k_is)
    (case a__law_heard => k_is)
    (case l__law_heard => k_is)
    (case c__law_heard => k_is)
    (case k__law_heard => k_is)
    (case a_law => k_is)
    (case l_law => k_is)
    (case c_law => k_is)
    (case k_law => k_is)
    (case v_law => k_is)
    (case p_law => rfl)
    (case e_law => kernel_rfl)
    (case n_law => kernel_rfl)
    (case nd => decide)
    (case z_ValueError => k_is)
    (case z_all => k_is)
    (case z_bool => k_is)
    (case z_dict => k_is)
    (case z_int => k_is)
    (case z_isinstance => k_is)
    (case z_len => k_is)
    (case z_list => k_is)
    (case z_range => k_is)
    (case z_str => k_is)
    (case z_super => k_is)
    (case z_tuple => k_is)
    (case g_ANY => k_is)
    (case g_BACK => k_is)
    (case g_BEGINS => k_is)
    (case g_BOTH => k_is)
    (case g_COUNT => k_is)
    (case g_DIGITS => k_is)
    (case g_EITHER => k_is)
    (case g_ENDS => k_is)
    (case g_FROM => k_is)
    (case g_HOLDS => k_is)
    (case g_LEAST_LETTERS => k_is)
    (case g_LETTERS => k_is)
    (case g_LIKE => k_is)
    (case g_MOST_DEPTH => k_is)
    (case g_MOST_LETTERS => k_is)
    (case g_NOT => k_is)
    (case g_SIZES => k_is)
    (case dl_SIZES => k_is)
    (case dk_SIZES => repeat (first | exact True.intro | refine ⟨⟨_, _, rfl, rfl⟩, ?_⟩))
    (case dw_SIZES => decide)
    (case dt_SIZES => first | kernel_rfl | rfl)
    (case a_BadArgument => k_is)
    (case xL_BadArgument => k_is)
    (case rV_BadArgument => first | rfl | kernel_rfl)
    (case sa_BadArgument => first | k_is | kernel_rfl)
    (case eC_BadArgument => first | k_is | kernel_rfl)
    (case tC_BadArgument => first | k_is | kernel_rfl)
    (case kC_BadArgument => first | k_is | kernel_rfl)
    (case i_BadArgument => k_is)
    (case iL_BadArgument => k_is)
    (case cd_BadArgument => first | k_is | kernel_rfl)
    (case cL_BadArgument => k_is)
    (case cF_BadArgument => rfl)
    (case fE_BadArgument => first | kernel_rfl | rfl)
    (case cC_BadArgument => k_is)
    (case sub_BadArgument => first | k_is | kernel_rfl)
    (case sup_BadArgument => first | k_is | kernel_rfl)
    (case ve_BadArgument => first | k_is | kernel_rfl)
    (case et_BadArgument => first | k_is | kernel_rfl)
    (case ga_BadArgument => first | k_is | kernel_rfl)
    (case gg_BadArgument => first | k_is | kernel_rfl)
    (case hd_BadArgument => first | k_is | kernel_rfl)
    (case ha_BadArgument => first | k_is | kernel_rfl)
    (case hm_BadArgument => first | k_is | kernel_rfl)
    (case no_BadArgument => first | k_is | kernel_rfl)
    (case kV_ => first | k_is | kernel_rfl)
    (case x_BadArgument => first | k_is | kernel_rfl)
    (case opq => first | k_is | kernel_rfl)
    (case hn => first | k_is | kernel_rfl)
    (case ht => first | k_is | kernel_rfl)
    (case tp => first | rfl | kernel_rfl)
    (case a_CrossError => k_is)
    (case a_Unfilled => k_is)
    (case a_Refused => k_is)
    (case a_Unread => k_is)
    (case kE_ => first | k_is | kernel_rfl)
